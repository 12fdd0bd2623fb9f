import PyProof.Rows.All
import HandS.ForMost
import KE.SortCalls
import KE.DataCmp
import KE.DataMinMax
import HandS.TupMul
import HandS.Walk
import HandS.TupAny
import HandS.Dict
import HandS.Style
import HandS.IsInst
import HandS.Zip
import HandS.Iter
import KE.GoesMore
import KE.KItemsList
import HandS.DictTup
import KE.KTupSum
import HandS.Conv
import HandS.Gcd
import HandS.List
import HandS.Comp
import HandS.Defaults
import HandS.HeadHook1
import HandS.HeadHook2
import HandS.Head0
import HandS.Head1
import HandS.Head2
import HandS.HeadEnd
import PySem.Challenge.RW_littowers_k05_whole_roofs
set_option Elab.async false
set_option linter.all false
set_option maxRecDepth 100000
set_option maxHeartbeats 4000000
/-! LtA: plain data, what stands for it in a heap, the small syntax and its interpreter. -/
namespace Lt
open PySem PySem.Spec PyProof.Rows L2

/-- plain data -/
inductive D where
  | non
  | bl (b : Bool)
  | int (i : Int)
  | str (s : PySem.Str)
  | tup (xs : List D)
  | lst (xs : List D)
  | dK (kvs : List (Key × D))
  | dT (kvs : List (List Key × D))
  deriving Inhabited

/-! ### what stands for it -/
mutual
inductive Rep (G : Hp) : V → D → Prop
  | non : Rep G .non .non
  | bl (b : Bool) : Rep G (.bl b) (.bl b)
  | int (i : Int) : Rep G (.int i) (.int i)
  | str (s : PySem.Str) : Rep G (.str s) (.str s)
  | tup {a : Addr} {vs : List V} {ds : List D} : G a = some (.tup vs) → Reps G vs ds → Rep G (.ref a) (.tup ds)
  | lst {a : Addr} {vs : List V} {ds : List D} : G a = some (.lst vs) → Reps G vs ds → Rep G (.ref a) (.lst ds)
  | dK {a : Addr} {ks : List Key} {vs : List V} {ds : List D} : G a = some (.dK (ks.zip vs)) → ks.length = vs.length → Reps G vs ds → Rep G (.ref a) (.dK (ks.zip ds))
  | dT {a : Addr} {ks : List (List Key)} {vs : List V} {ds : List D} : G a = some (.dT (ks.zip vs)) → ks.length = vs.length → Reps G vs ds → Rep G (.ref a) (.dT (ks.zip ds))
inductive Reps (G : Hp) : List V → List D → Prop
  | nil : Reps G [] []
  | cons {v : V} {d : D} {vs : List V} {ds : List D} : Rep G v d → Reps G vs ds → Reps G (v :: vs) (d :: ds)
end
mutual
theorem Rep.mono {G G' : Hp} (s : Same G G') {v : V} {d : D} : Rep G v d → Rep G' v d
  | .non => .non
  | .bl b => .bl b
  | .int i => .int i
  | .str z => .str z
  | .tup h r => .tup (s _ _ h) (Reps.mono s r)
  | .lst h r => .lst (s _ _ h) (Reps.mono s r)
  | .dK h l r => .dK (s _ _ h) l (Reps.mono s r)
  | .dT h l r => .dT (s _ _ h) l (Reps.mono s r)
theorem Reps.mono {G G' : Hp} (s : Same G G') {vs : List V} {ds : List D} : Reps G vs ds → Reps G' vs ds
  | .nil => .nil
  | .cons h r => .cons (Rep.mono s h) (Reps.mono s r)
end
section
variable {G : Hp}
theorem Reps.length : ∀ {vs : List V} {ds : List D}, Reps G vs ds → vs.length = ds.length
  | _, _, .nil => rfl
  | _, _, .cons _ r => by rw [List.length_cons, List.length_cons, Reps.length r]
theorem Reps.get : ∀ {vs : List V} {ds : List D} {i : Nat} {d : D}, Reps G vs ds → ds[i]? = some d → ∃ v, vs[i]? = some v ∧ Rep G v d
  | _, _, _, _, .nil, e => by simp at e
  | _, _, 0, _, .cons h _, e => by simp at e; subst e; exact ⟨_, rfl, h⟩
  | _, _, i + 1, d, .cons _ r, e => by
    obtain ⟨v, h1, h2⟩ := Reps.get (i := i) (d := d) r (by simpa using e)
    exact ⟨v, by simpa using h1, h2⟩
theorem Reps.getV : ∀ {vs : List V} {ds : List D} {i : Nat} {v : V}, Reps G vs ds → vs[i]? = some v → ∃ d, ds[i]? = some d ∧ Rep G v d
  | _, _, _, _, .nil, e => by simp at e
  | _, _, 0, _, .cons h _, e => by simp at e; subst e; exact ⟨_, rfl, h⟩
  | _, _, i + 1, d, .cons _ r, e => by
    obtain ⟨v, h1, h2⟩ := Reps.getV (i := i) (v := d) r (by simpa using e)
    exact ⟨v, by simpa using h1, h2⟩
theorem Reps.append : ∀ {vs ws : List V} {ds es : List D}, Reps G vs ds → Reps G ws es → Reps G (vs ++ ws) (ds ++ es)
  | _, _, _, _, .nil, r => r
  | _, _, _, _, .cons h t, r => .cons h (Reps.append t r)
theorem Reps.take : ∀ {vs : List V} {ds : List D} (n : Nat), Reps G vs ds → Reps G (vs.take n) (ds.take n)
  | _, _, 0, _ => .nil
  | _, _, _ + 1, .nil => .nil
  | _, _, n + 1, .cons h r => .cons h (Reps.take n r)
theorem Reps.drop : ∀ {vs : List V} {ds : List D} (n : Nat), Reps G vs ds → Reps G (vs.drop n) (ds.drop n)
  | _, _, 0, r => r
  | _, _, _ + 1, .nil => .nil
  | _, _, n + 1, .cons _ r => Reps.drop n r
theorem Reps.set {v : V} {d : D} (h : Rep G v d) : ∀ {vs : List V} {ds : List D} (n : Nat), Reps G vs ds → Reps G (vs.set n v) (ds.set n d)
  | _, _, _, .nil => .nil
  | _, _, 0, .cons _ r => .cons h r
  | _, _, n + 1, .cons q r => .cons q (Reps.set h n r)
theorem Reps.one {v : V} {d : D} (h : Rep G v d) : Reps G [v] [d] := .cons h .nil
theorem Reps.snoc {vs : List V} {ds : List D} {v : V} {d : D} (r : Reps G vs ds) (h : Rep G v d) : Reps G (vs ++ [v]) (ds ++ [d]) := r.append (.one h)
theorem Reps.reverse : ∀ {vs : List V} {ds : List D}, Reps G vs ds → Reps G vs.reverse ds.reverse
  | _, _, .nil => .nil
  | _, _, .cons h r => by rw [List.reverse_cons, List.reverse_cons]; exact (Reps.reverse r).append (.one h)
theorem Reps.rep {v : V} {d : D} (h : Rep G v d) : ∀ n : Nat, Reps G (List.replicate n v) (List.replicate n d)
  | 0 => .nil
  | n + 1 => .cons h (Reps.rep h n)
theorem Reps.flat {vs : List V} {ds : List D} (h : Reps G vs ds) : ∀ n : Nat, Reps G (List.replicate n vs).flatten (List.replicate n ds).flatten
  | 0 => .nil
  | n + 1 => by rw [List.replicate_succ, List.replicate_succ, List.flatten_cons, List.flatten_cons]; exact h.append (Reps.flat h n)
end

/-- the ints of a list of data -/
def intsD : List D → Option (List Int)
  | [] => some []
  | .int i :: r => (intsD r).map (i :: ·)
  | _ :: _ => none
def blsD : List D → Option (List Bool)
  | [] => some []
  | .bl i :: r => (blsD r).map (i :: ·)
  | _ :: _ => none
theorem Reps.ints {G : Hp} : ∀ {vs : List V} {ds : List D} {ns : List Int}, Reps G vs ds → intsD ds = some ns → vs = ns.map V.int
  | _, _, _, .nil, e => by cases e; rfl
  | _, _, _, .cons (.int i) r, e => by
    obtain ⟨m, h, rfl⟩ := Option.map_eq_some_iff.mp e
    rw [r.ints h]; rfl
  | _, _, _, .cons .non r, e => by cases e
  | _, _, _, .cons (.bl _) r, e => by cases e
  | _, _, _, .cons (.str _) r, e => by cases e
  | _, _, _, .cons (.tup _ _) r, e => by cases e
  | _, _, _, .cons (.lst _ _) r, e => by cases e
  | _, _, _, .cons (.dK _ _ _) r, e => by cases e
  | _, _, _, .cons (.dT _ _ _) r, e => by cases e
theorem Reps.bls {G : Hp} : ∀ {vs : List V} {ds : List D} {ns : List Bool}, Reps G vs ds → blsD ds = some ns → vs = ns.map V.bl
  | _, _, _, .nil, e => by cases e; rfl
  | _, _, _, .cons (.bl i) r, e => by
    obtain ⟨m, h, rfl⟩ := Option.map_eq_some_iff.mp e
    rw [r.bls h]; rfl
  | _, _, _, .cons .non r, e => by cases e
  | _, _, _, .cons (.int _) r, e => by cases e
  | _, _, _, .cons (.str _) r, e => by cases e
  | _, _, _, .cons (.tup _ _) r, e => by cases e
  | _, _, _, .cons (.lst _ _) r, e => by cases e
  | _, _, _, .cons (.dK _ _ _) r, e => by cases e
  | _, _, _, .cons (.dT _ _ _) r, e => by cases e
theorem reps_ints {G : Hp} : ∀ (ns : List Int), Reps G (ns.map V.int) (ns.map D.int)
  | [] => .nil
  | i :: r => .cons (.int i) (reps_ints r)

/-! ### the draw list -/
structure W where
  ns : List Int
  a : Int
  b : Int
  c : Int

/-! ### syntax -/
inductive Tg where
  | n (i : Nat)
  | t (ts : List Tg)
mutual
def Tg.slots : Tg → List Nat
  | .n i => [i]
  | .t ts => Tg.slotss ts
def Tg.slotss : List Tg → List Nat
  | [] => []
  | x :: xs => Tg.slots x ++ Tg.slotss xs
end
/-- what is walked: an expression's list or tuple, range, enumerate, zip -/
inductive IK where
  | plain | range | enum | zip | zipN | down
inductive Bi where
  | len | abs | min2 | max2 | minL | maxL | sum | tuple | list | sorted | int | all | any | minT | maxT
/-- further operators -/
inductive X1 where
  | revT | revL | lrng | trng
inductive X2 where
  | gcd | lrng
inductive Ty where
  | int | bool | tuple | list | str
inductive E where
  | never
  | var (i : Nat)
  | non
  | bl (b : Bool)
  | int (i : Int)
  | str (s : PySem.Str)
  | glo (x : PySem.Str) (i : Int)
  | bin (op : Operator) (a b : E)
  | neg (a : E)
  | cmp (op : CmpOp) (a b : E)
  | chain (op op' : CmpOp) (a b c : E)
  | and (a b : E)
  | or (a b : E)
  | not (a : E)
  | ite (c a b : E)
  | tup (es : List E)
  | lst (es : List E)
  | idx (a b : E)
  | slice (a : E) (lo hi : Option E)
  | rev (a : E)
  | call (f : PySem.Str) (es : List E)
  | callR (f : PySem.Str) (es : List E)
  | blt (b : Bi) (es : List E)
  | isi (a : E) (t : Ty)
  | isi2 (a : E) (t u : Ty)
  | chain3 (op op' op'' : CmpOp) (a b c d : E)
  | x1 (o : X1) (a : E)
  | x2 (o : X2) (a b : E)
  | rowLen
  | rowCell (a : E)
  | rowGet (k : Nat)
  | comp (own : List Nat) (tg : Tg) (ik : IK) (es : List E) (cond : Option E) (elt : E)
  | comp2 (own : List Nat) (tg : Tg) (ik : IK) (es : List E) (cond : Option E) (tg1 : Tg) (ik1 : IK) (es1 : List E) (cond1 : Option E) (elt : E)

/-! ### values -/
def mulLim : Nat := 2 ^ 64
def big (i : Int) : Bool := decide (-(2 ^ 64) < i) && decide (i < 2 ^ 64)
def okLen (n : Nat) : Bool := decide (n ≤ sizeLine)
def opD : Operator → D → D → Option D
  | .Add, .int i, .int j => some (.int (i + j))
  | .Sub, .int i, .int j => some (.int (i - j))
  | .Mult, .int i, .int j => if big i || big j then some (.int (i * j)) else none
  | .FloorDiv, .int i, .int j => if decide (j ≠ 0) && decide (j.natAbs < 1073741824) then some (.int (i.fdiv j)) else none
  | .Mod, .int i, .int j => if decide (j ≠ 0) then some (.int (i.fmod j)) else none
  | .Pow, .int i, .int j => if decide (0 ≤ j) && decide (j ≤ 1000000) && decide (i.natAbs < 2 ^ 64) then some (.int (i ^ j.toNat)) else none
  | .Add, .tup xs, .tup ys => if okLen (xs.length + ys.length) then some (.tup (xs ++ ys)) else none
  | .Add, .lst xs, .lst ys => if okLen (xs.length + ys.length) then some (.lst (xs ++ ys)) else none
  | .Mult, .tup xs, .int n => if decide (0 < xs.length) && decide (xs.length ≤ 1000) && decide (1 ≤ n) && decide (n ≤ 1000) then some (.tup (List.replicate n.toNat xs).flatten) else none
  | .Mult, .lst xs, .int n => if decide (-(2 ^ 62) ≤ n) && decide (n < 2 ^ 62) && okLen (xs.length * n.toNat) then some (.lst (List.replicate n.toNat xs).flatten) else none
  | .BitOr, .int i, .int j => some (.int (Builtin.bitOr i j))
  | .BitAnd, .int i, .int j => some (.int (Builtin.bitAnd i j))
  | .LShift, .int i, .int j => if decide (0 ≤ j) && decide (j ≤ 1000000) && decide (i.natAbs < 2 ^ 64) then some (.int (i * 2 ^ j.toNat)) else none
  | .RShift, .int i, .int j => if decide (0 ≤ j) then some (.int (i / 2 ^ j.toNat)) else none
  | _, _, _ => none
mutual
def D.toP : D → PyData
  | .non => .none
  | .bl b => .bool b
  | .int i => .int i
  | .str s => .str s
  | .tup xs => .tuple (D.toPs xs)
  | .lst xs => .list (D.toPs xs)
  | .dK _ => .none
  | .dT _ => .none
def D.toPs : List D → List PyData
  | [] => []
  | d :: r => D.toP d :: D.toPs r
end
mutual
/-- no dict within -/
def D.noDict : D → Bool
  | .tup xs => D.noDicts xs
  | .lst xs => D.noDicts xs
  | .dK _ => false
  | .dT _ => false
  | _ => true
def D.noDicts : List D → Bool
  | [] => true
  | d :: r => D.noDict d && D.noDicts r
end
def eqOk (d : D) : Bool := d.noDict && SeqAt.shaped d.toP
def eqD (x y : D) : Bool := PyData.eqv x.toP y.toP
def inD (x : D) (ys : List D) : Bool := ys.any fun y => eqD y x
/-- sorted(..): alike things, by their order -/
def ltD (x y : D) : Bool := PySem.W.dataLt x.toP y.toP
def alikeD (x y : D) : Bool := PySem.W.alike x.toP y.toP
def ordOk (x y : D) : Bool := eqOk x && eqOk y && alikeD x y
def cmpD : CmpOp → D → D → Option Bool
  | .Eq, x, y => if eqOk x && eqOk y then some (eqD x y) else none
  | .NotEq, x, y => if eqOk x && eqOk y then some (!eqD x y) else none
  | .Lt, .int i, .int j => some (decide (i < j))
  | .Lt, .tup xs, .tup ys => if ordOk (.tup xs) (.tup ys) then some (ltD (.tup xs) (.tup ys)) else none
  | .LtE, .tup xs, .tup ys => if ordOk (.tup xs) (.tup ys) then some (!ltD (.tup ys) (.tup xs)) else none
  | .LtE, .int i, .int j => some (decide (i ≤ j))
  | .Gt, .int i, .int j => some (decide (j < i))
  | .GtE, .int i, .int j => some (decide (j ≤ i))
  | .Is, .non, .non => some true
  | .Is, .bl _, .non => some false
  | .Is, .int _, .non => some false
  | .Is, .str _, .non => some false
  | .Is, .tup _, .non => some false
  | .Is, .lst _, .non => some false
  | .IsNot, .non, .non => some false
  | .IsNot, .bl _, .non => some true
  | .IsNot, .int _, .non => some true
  | .IsNot, .str _, .non => some true
  | .IsNot, .tup _, .non => some true
  | .IsNot, .lst _, .non => some true
  | .In, x, .lst ys => if eqOk x && ys.all eqOk then some (inD x ys) else none
  | .In, x, .tup ys => if eqOk x && ys.all eqOk then some (inD x ys) else none
  | .NotIn, x, .lst ys => if eqOk x && ys.all eqOk then some (!inD x ys) else none
  | .NotIn, x, .tup ys => if eqOk x && ys.all eqOk then some (!inD x ys) else none
  | _, _, _ => none
def keyD : D → Option Key
  | .int i => some (.inl i)
  | .str s => some (.inr s)
  | _ => none
def keysD : List D → Option (List Key)
  | [] => some []
  | d :: r => (keyD d).bind fun k => (keysD r).map (k :: ·)
def unK : Key → D
  | .inl i => .int i
  | .inr s => .str s
def getT (kvs : List (List Key × D)) (k : List Key) : Option D := (kvs.find? fun kv => decide (kv.1 = k)).map (·.2)
def keysT (kvs : List (List Key × D)) : List D := kvs.map fun kv => .tup (kv.1.map unK)
def idxD : D → D → Option D
  | .dT kvs, .tup ks => (keysD ks).bind (getT kvs)
  | .lst xs, .int i => atI xs i
  | .tup xs, .int i => atI xs i
  | _, _ => none
def cutD (xs : List D) (lo hi : Option Int) : List D := (xs.drop (HT.sIx xs.length 0 lo)).take (HT.sIx xs.length xs.length hi - HT.sIx xs.length 0 lo)
def sliceD : D → Option Int → Option Int → Option D
  | .lst xs, lo, hi => some (.lst (cutD xs lo hi))
  | .tup xs, lo, hi => some (.tup (cutD xs lo hi))
  | _, _, _ => none
def revD : D → Option D
  | .lst xs => some (.lst xs.reverse)
  | .tup xs => some (.tup xs.reverse)
  | _ => none
def maxI : List Int → Int
  | [] => 0
  | i :: r => r.foldl (fun m j => if j > m then j else m) i
def minI : List Int → Int
  | [] => 0
  | i :: r => r.foldl (fun m j => if j < m then j else m) i
def seqD : D → Option (List D)
  | .lst xs => some xs
  | .tup xs => some xs
  | _ => none
def isTup1 : D → Bool
  | .tup (_ :: _) => true
  | _ => false
def noTup : D → Bool
  | .tup _ => false
  | .non => false
  | .dK _ => false
  | .dT _ => false
  | _ => true
def sortOk (xs : List D) : Bool := xs.all eqOk && xs.all (fun a => xs.all fun b => alikeD a b) && (xs.all isTup1 || xs.all noTup) && okLen xs.length
def sortD (xs : List D) : List D := xs.mergeSort fun a b => !ltD b a
/-- the first of the least, the first of the greatest -/
def minD (xs : List D) : D := xs.getD (argBest (fun i j => ltD (xs.getD i .non) (xs.getD j .non)) (xs.length - 1)) .non
def maxD (xs : List D) : D := xs.getD (argBest (fun i j => ltD (xs.getD j .non) (xs.getD i .non)) (xs.length - 1)) .non
def mostOk (xs : List D) : Bool := !xs.isEmpty && xs.all eqOk && xs.all (fun a => xs.all fun b => alikeD a b) && xs.all isTup1
def x1D : X1 → D → Option D
  | .revT, .tup xs => some (.tup xs.reverse)
  | .revL, .lst xs => some (.lst xs.reverse)
  | .lrng, .int n => if decide (-(2 ^ 62) ≤ n) && decide (n < 100000) then some (.lst ((List.range n.toNat).map fun (k : Nat) => .int (0 + (k : Int)))) else none
  | .trng, .int n => if decide (-(2 ^ 62) ≤ n) && decide (n < 100000) then some (.tup ((List.range n.toNat).map fun (k : Nat) => .int (0 + (k : Int)))) else none
  | _, _ => none
def x2D : X2 → D → D → Option D
  | .gcd, .int a, .int b => some (.int ((Nat.gcd a.natAbs b.natAbs : Nat) : Int))
  | .lrng, .int a, .int b => if decide (-(2 ^ 62) ≤ a) && decide (a < 2 ^ 62) && decide (-(2 ^ 62) ≤ b) && decide (b < 2 ^ 62) && decide (b - a < 100000) then some (.lst ((List.range (b - a).toNat).map fun (k : Nat) => .int (a + (k : Int)))) else none
  | _, _, _ => none
def bltD : Bi → List D → Option D
  | .minT, [.lst xs] => if mostOk xs then some (minD xs) else none
  | .maxT, [.lst xs] => if mostOk xs then some (maxD xs) else none
  | .len, [.lst xs] => some (.int xs.length)
  | .len, [.tup xs] => some (.int xs.length)
  | .abs, [.int i] => some (.int (if i < 0 then -i else i))
  | .max2, [.int i, .int j] => some (.int (if j > i then j else i))
  | .min2, [.int i, .int j] => some (.int (if j < i then j else i))
  | .maxL, [.lst xs] => (intsD xs).bind fun ns => if ns.isEmpty then none else some (.int (maxI ns))
  | .minL, [.lst xs] => (intsD xs).bind fun ns => if ns.isEmpty then none else some (.int (minI ns))
  | .sum, [.lst xs] => (intsD xs).map fun ns => .int ns.sum
  | .maxL, [.tup xs] => (intsD xs).bind fun ns => if ns.isEmpty then none else some (.int (maxI ns))
  | .minL, [.tup xs] => (intsD xs).bind fun ns => if ns.isEmpty then none else some (.int (minI ns))
  | .sum, [.tup xs] => (intsD xs).map fun ns => .int ns.sum
  | .tuple, [x] => (seqD x).map .tup
  | .list, [x] => (seqD x).map .lst
  | .int, [.int i] => some (.int i)
  | .int, [.bl b] => some (.int (if b then 1 else 0))
  | .sorted, [.lst xs] => if sortOk xs then some (.lst (sortD xs)) else none
  | .sorted, [.dT kvs] => if sortOk (keysT kvs) then some (.lst (sortD (keysT kvs))) else none
  | .all, [.lst xs] => (blsD xs).map fun bs => .bl (bs.all id)
  | .any, [.lst xs] => (blsD xs).map fun bs => .bl (bs.any id)
  | _, _ => none
def isiD : D → Ty → Bool
  | .int _, .int => true
  | .bl _, .int => true
  | .bl _, .bool => true
  | .tup _, .tuple => true
  | .lst _, .list => true
  | .str _, .str => true
  | _, _ => false
def enumD : Nat → List D → List D
  | _, [] => []
  | k, d :: r => .tup [.int (k : Int), d] :: enumD (k + 1) r
def itemsD : IK → List D → Option (List D)
  | .plain, [x] => seqD x
  | .range, [.int n] => if decide (-(2 ^ 62) ≤ n) && decide (n < 2 ^ 62) then some ((List.range n.toNat).map fun (k : Nat) => .int (0 + (k : Int))) else none
  | .range, [.int a, .int b] => if decide (-(2 ^ 62) ≤ a) && decide (a < 2 ^ 62) && decide (-(2 ^ 62) ≤ b) && decide (b < 2 ^ 62) then some ((List.range (b - a).toNat).map fun (k : Nat) => .int (a + (k : Int))) else none
  | .enum, [x] => (seqD x).map (enumD 0)
  | .zip, [.lst xs, .lst ys] => some (List.zipWith (fun a b => .tup [a, b]) xs ys)
  | .zip, [.tup xs, .tup ys] => some (List.zipWith (fun a b => .tup [a, b]) xs ys)
  | .down, [.int a, .int b, .int c] => if decide (c = -1) && decide (-(2 ^ 62) ≤ a) && decide (a < 2 ^ 62) && decide (-(2 ^ 62) ≤ b) && decide (b < 2 ^ 62) then some ((List.range (a - b).toNat).map fun (k : Nat) => .int (a + (k : Int) * (-1))) else none
  | .zipN, [.tup xs, .tup ys] => some (List.zipWith (fun a b => .tup [a, b]) xs ys)
  | _, _ => none

/-! ### the interpreter -/
abbrev Env := List (Option D)
/-- what a def answers: its name, whether the draw list is handed on, the arguments behind it -/
abbrev Orc := PySem.Str → Bool → List D → Option W → Option (D × Option W)
def wipeE (ρ : Env) : List Nat → Env
  | [] => ρ
  | v :: vs => (wipeE ρ vs).set v none
mutual
def bindT : Tg → D → Env → Option Env
  | .n i, d, ρ => if i < ρ.length then some (ρ.set i (some d)) else none
  | .t ts, .tup ds, ρ => bindTs ts ds ρ
  | _, _, _ => none
def bindTs : List Tg → List D → Env → Option Env
  | [], [], ρ => some ρ
  | t :: ts, d :: ds, ρ => (bindT t d ρ).bind (bindTs ts ds)
  | _, _, _ => none
end
/-- the items that stay, in turn -/
def compL (f : D → Option W → Option (Option D × Option W)) : List D → Option W → Option (List D × Option W)
  | [], w => some ([], w)
  | x :: xs, w => (f x w).bind fun p => (compL f xs p.2).map fun q => (match p.1 with | some d => d :: q.1 | none => q.1, q.2)
/-- the rows of items, in turn -/
def compLL (f : D → Option W → Option (List D × Option W)) : List D → Option W → Option (List D × Option W)
  | [], w => some ([], w)
  | x :: xs, w => (f x w).bind fun p => (compLL f xs p.2).map fun q => (p.1 ++ q.1, q.2)
def isBl : D → Option Bool
  | .bl b => some b
  | _ => none
def cellAt (w : W) : D → Option D
  | .int i => (atI w.ns i).map .int
  | _ => none
def rowAt (w : W) : Nat → Option D
  | 1 => some (.int w.a)
  | 2 => some (.int w.b)
  | 3 => some (.int w.c)
  | _ => none
def optI : Option D → Option (Option Int)
  | none => some none
  | some (.int i) => some (some i)
  | _ => none
section
variable (F : Orc)
mutual
def ev : E → Env → Option W → Option (D × Option W)
  | .never, _, _ => none
  | .var i, ρ, w => match ρ[i]? with | some (some d) => some (d, w) | _ => none
  | .non, _, w => some (.non, w)
  | .bl b, _, w => some (.bl b, w)
  | .int i, _, w => some (.int i, w)
  | .str s, _, w => some (.str s, w)
  | .glo _ i, _, w => some (.int i, w)
  | .bin op a b, ρ, w => (ev a ρ w).bind fun x => (ev b ρ x.2).bind fun y => (opD op x.1 y.1).map (·, y.2)
  | .neg a, ρ, w => (ev a ρ w).bind fun x => match x.1 with | .int i => some (.int (-i), x.2) | _ => none
  | .cmp op a b, ρ, w => (ev a ρ w).bind fun x => (ev b ρ x.2).bind fun y => (cmpD op x.1 y.1).map (D.bl ·, y.2)
  | .chain op op' a b c, ρ, w => (ev a ρ w).bind fun x => (ev b ρ x.2).bind fun y => (cmpD op x.1 y.1).bind fun t =>
      if t then (ev c ρ y.2).bind fun z => (cmpD op' y.1 z.1).map (D.bl ·, z.2) else some (.bl false, y.2)
  | .and a b, ρ, w => (ev a ρ w).bind fun x => (isBl x.1).bind fun t => if t then ev b ρ x.2 else some (.bl false, x.2)
  | .or a b, ρ, w => (ev a ρ w).bind fun x => (isBl x.1).bind fun t => if t then some (.bl true, x.2) else ev b ρ x.2
  | .not a, ρ, w => (ev a ρ w).bind fun x => (isBl x.1).map fun t => (.bl (!t), x.2)
  | .ite c a b, ρ, w => (ev c ρ w).bind fun x => (isBl x.1).bind fun t => if t then ev a ρ x.2 else ev b ρ x.2
  | .tup es, ρ, w => (evs es ρ w).bind fun x => if okLen x.1.length then some (.tup x.1, x.2) else none
  | .lst es, ρ, w => (evs es ρ w).bind fun x => if okLen x.1.length then some (.lst x.1, x.2) else none
  | .idx a b, ρ, w => (ev a ρ w).bind fun x => (ev b ρ x.2).bind fun y => (idxD x.1 y.1).map (·, y.2)
  | .slice a lo hi, ρ, w => (ev a ρ w).bind fun x => (evo lo ρ x.2).bind fun l => (evo hi ρ l.2).bind fun h => (optI l.1).bind fun i => (optI h.1).bind fun j => (sliceD x.1 i j).map (·, h.2)
  | .rev a, ρ, w => (ev a ρ w).bind fun x => (revD x.1).map (·, x.2)
  | .call f es, ρ, w => (evs es ρ w).bind fun x => (F f false x.1 none).bind fun r => some (r.1, x.2)
  | .callR f es, ρ, w => w.bind fun _ => (evs es ρ w).bind fun x => match x.2 with | some w' => F f true x.1 (some w') | none => none
  | .blt b es, ρ, w => (evs es ρ w).bind fun x => (bltD b x.1).map (·, x.2)
  | .isi a t, ρ, w => (ev a ρ w).bind fun x => some (.bl (isiD x.1 t), x.2)
  | .isi2 a t u, ρ, w => (ev a ρ w).bind fun x => some (.bl (isiD x.1 t || isiD x.1 u), x.2)
  | .chain3 op op' op'' a b c d, ρ, w => (ev a ρ w).bind fun x => (ev b ρ x.2).bind fun y => (cmpD op x.1 y.1).bind fun t =>
      if t then (ev c ρ y.2).bind fun z => (cmpD op' y.1 z.1).bind fun t' => if t' then (ev d ρ z.2).bind fun u => (cmpD op'' z.1 u.1).map (D.bl ·, u.2) else some (.bl false, z.2) else some (.bl false, y.2)
  | .x1 o a, ρ, w => (ev a ρ w).bind fun x => (x1D o x.1).map (·, x.2)
  | .x2 o a b, ρ, w => (ev a ρ w).bind fun x => (ev b ρ x.2).bind fun y => (x2D o x.1 y.1).map (·, y.2)
  | .rowLen, _, w => w.map fun z => (.int z.ns.length, w)
  | .rowCell a, ρ, w => w.bind fun _ => (ev a ρ w).bind fun x => x.2.bind fun z => (cellAt z x.1).map (·, x.2)
  | .rowGet k, _, w => w.bind fun z => (rowAt z k).map (·, w)
  | .comp own tg ik es cond elt, ρ, w => (evs es ρ w).bind fun x => (itemsD ik x.1).bind fun its =>
      (compL (fun d w1 => (bindT tg d (wipeE ρ own)).bind fun ρ1 => (evc cond ρ1 w1).bind fun t => if t.1 then (ev elt ρ1 t.2).map fun r => (some r.1, r.2) else some (none, t.2)) its x.2).bind
        fun r => if okLen r.1.length then some (.lst r.1, r.2) else none
  | .comp2 own tg ik es cond tg1 ik1 es1 cond1 elt, ρ, w => (evs es ρ w).bind fun x => (itemsD ik x.1).bind fun its =>
      (compLL (fun d w1 => (bindT tg d (wipeE ρ own)).bind fun ρ1 => (evc cond ρ1 w1).bind fun t => if t.1 then (evs es1 ρ1 t.2).bind fun x1 => (itemsD ik1 x1.1).bind fun its1 =>
          compL (fun d1 w2 => (bindT tg1 d1 (wipeE ρ1 tg1.slots)).bind fun ρ2 => (evc cond1 ρ2 w2).bind fun t1 => if t1.1 then (ev elt ρ2 t1.2).map fun r => (some r.1, r.2) else some (none, t1.2)) its1 x1.2
        else some ([], t.2)) its x.2).bind
        fun r => if okLen r.1.length then some (.lst r.1, r.2) else none
def evs : List E → Env → Option W → Option (List D × Option W)
  | [], _, w => some ([], w)
  | e :: es, ρ, w => (ev e ρ w).bind fun x => (evs es ρ x.2).map fun y => (x.1 :: y.1, y.2)
def evo : Option E → Env → Option W → Option (Option D × Option W)
  | none, _, w => some (none, w)
  | some e, ρ, w => (ev e ρ w).map fun x => (some x.1, x.2)
/-- a clause's test -/
def evc : Option E → Env → Option W → Option (Bool × Option W)
  | none, _, w => some (true, w)
  | some e, ρ, w => (ev e ρ w).bind fun x => (isBl x.1).map (·, x.2)
end
end
end Lt

set_option Elab.async false
set_option linter.all false
set_option maxRecDepth 100000
set_option maxHeartbeats 4000000
/-! LtBa: a tuple times a number, the number 1 too. -/
namespace Lt
open PySem PySem.Spec PyProof.Rows L2
theorem tuple_mul1 (l : Addr) (items : Array Value) (n : Nat) (dd : Option Addr) (sl : Array (Option Value)) (u : Tok) (c0 : (decide ((1 : Int) < -(2 ^ 63)) || decide ((1 : Int) ≥ 2 ^ 63)) = false) (c1 : (items.isEmpty || (1 : Int) == 1) = true) :
    Meets (Builtin.«tuple.__mul__» ⟨[.ref l, .int 1 u], []⟩) (fun _ R s => s.heap.get? l = some { cls := .type "tuple", dict := dd, data := .seq items n, slots := sl } ∧
      R (.ok (.ret (Value.ref l))) s) :=
  .of_wp fun prog w A R s h => by
    obtain ⟨hp, g, d, tk, os⟩ := s
    obtain ⟨hl, h⟩ := h
    have f1 := AutoSeq1.idx_int
    wp_walk using wpAny_loadPart' hl
    repeat (first
      | (refine wpAny_ite_false (decide_eq_false (by rw [c0]; exact Bool.false_ne_true)) ?_; wp_walk using wpAny_loadPart' hl)
      | (refine wpAny_ite_true (decide_eq_true c1) ?_; wp_walk using wpAny_loadPart' hl))
    exact ⟨_, rfl, h⟩
def rRep1 (K : PySem.W.Frag) : R2 := fun x y H Q => ∃ l xs, x = .ref l ∧ y = .int 1 ∧ SqT K H l xs ∧ Q (.ref l) H
theorem op_rep1 {X : Cx} : OpR X (binaryOp .Mult) (rRep1 X.K) := by
  intro pins s σ H x y v u Q I rx ry h
  obtain ⟨l, xs, rfl, rfl, hT, q⟩ := h
  cases rx
  obtain ⟨t, rfl⟩ := ry
  obtain ⟨its, r, ⟨⟨cls, dd, data, sl⟩, ho, hc, n, hd⟩, hs⟩ := I.tuple hT
  simp only at hc hd
  subst hc hd
  refine wpAny_binaryOp_repeat_ref (T := "tuple") (U := "int") (by decide) ⟨_, ho, rfl⟩ (fun s' => typeIs_int s' 1 t) noFill_tuple_mul F.fills_int_mul F.slot_int_rmul repeat_tuple F.slot_int_index.lookup
    (call_meets F.slot_int_rmul (typeIs_int s 1 t) F.entry_int_rmul (F.args_int_rmul_2 _ _) (int_rmul_tuple 1 t l its.toArray n dd sl)
      ⟨ho, rfl, ⟨_, ho, rfl⟩, call_meets F.slot_tuple_mul ⟨_, ho, rfl⟩ F.entry_tuple_mul (F.args_tuple_mul_2 _ _) (tuple_mul1 l its.toArray n dd sl t (by decide) (by simp)) ⟨ho, ?_⟩⟩)
  exact ⟨.ref l, H, I, rfl, q⟩
end Lt

set_option Elab.async false
set_option linter.all false
set_option maxRecDepth 100000
set_option maxHeartbeats 4000000
/-! LtB: heaps that grow; readings by the interpreter; the operators. -/
namespace Lt
open PySem PySem.Spec PyProof.Rows L2
abbrev St := L2.St

/-- a tuple -/
def isTupO : HO → Bool
  | .tup _ => true
  | _ => false
/-- what stands there is no tuple -/
def NT (H : Hp) (p : Addr) : Prop := ∃ o, H p = some o ∧ isTupO o = false
theorem NT.ne {H : Hp} {p : Addr} (h : NT H p) : H p ≠ none := fun z => by obtain ⟨o, e, _⟩ := h; rw [z] at e; cases e
theorem NT.eq {H H' : Hp} {p : Addr} (h : NT H p) (e : H' p = H p) : NT H' p := by obtain ⟨o, q, t⟩ := h; exact ⟨o, e.trans q, t⟩
theorem NT.same {H H' : Hp} {p : Addr} (h : NT H p) (s : Same H H') : NT H' p := by obtain ⟨o, q, t⟩ := h; exact ⟨o, s _ _ q, t⟩
/-- only new things -/
structure Grow (H G H' G' : Hp) : Prop where
  g : Same G G'
  s : Same G' H'
  h : Same H H'
  n : ∀ p, NT H p → G' p ≠ none → G p ≠ none
abbrev RA := Option (Addr × Addr × List Int)
def notR (r : RA) (p : Addr) : Prop := ∀ a s ns, r = some (a, s, ns) → p ≠ a
/-- new things, and the draw list may have turned -/
structure Ext (r : RA) (H G H' G' : Hp) : Prop where
  g : Same G G'
  s : Same G' H'
  f : ∀ p o, notR r p → H p = some o → H' p = some o
  n : ∀ p, notR r p → NT H p → G' p ≠ none → G p ≠ none
  m : ∀ p, H p ≠ none → H' p ≠ none
section
variable {H G H' G' H2 G2 : Hp} {r : RA}
theorem same_ne (s : Same H H') {p : Addr} (h : H p ≠ none) : H' p ≠ none := by
  cases e : H p with
  | none => exact absurd e h
  | some o => rw [s p o e]; exact fun z => nomatch z
theorem Grow.refl (s : Same G H) : Grow H G H G := ⟨.refl _, s, .refl _, fun _ _ h => h⟩
theorem Grow.trans (a : Grow H G H' G') (b : Grow H' G' H2 G2) : Grow H G H2 G2 :=
  ⟨a.g.trans b.g, b.s, a.h.trans b.h, fun p h1 h2 => a.n p h1 (b.n p (h1.same a.h) h2)⟩
theorem Grow.ext (a : Grow H G H' G') : Ext r H G H' G' := ⟨a.g, a.s, fun p o _ e => a.h p o e, fun p _ => a.n p, fun p => same_ne a.h⟩
theorem Ext.refl (s : Same G H) : Ext r H G H G := (Grow.refl s).ext
theorem Ext.trans (a : Ext r H G H' G') (b : Ext r H' G' H2 G2) : Ext r H G H2 G2 :=
  ⟨a.g.trans b.g, b.s, fun p o n e => b.f p o n (a.f p o n e), fun p nr h1 h2 => a.n p nr h1 (b.n p nr (by obtain ⟨o, q, t⟩ := h1; exact ⟨o, a.f p o nr q, t⟩) h2), fun p h => b.m p (a.m p h)⟩
theorem Ext.grow (a : Ext none H G H' G') : Grow H G H' G' := ⟨a.g, a.s, fun p o e => a.f p o (fun _ _ _ z => nomatch z) e, fun p => a.n p fun _ _ _ z => nomatch z⟩
theorem same_new {p : Addr} {o : HO} (h : H p = none) : Same H (upd H p o) := fun b x e => by
  rw [upd_ne (ne_of_none e h)]
  exact e
theorem Grow.new {p : Addr} {o : HO} (s : Same G H) (hp : H p = none) : Grow H G (upd H p o) (upd G p o) := by
  refine ⟨same_new (Same.free s hp), fun b x e => ?_, same_new hp, fun b h1 h2 => ?_⟩
  · by_cases hb : b = p
    · subst hb; rw [upd_same] at e ⊢; exact e
    · rw [upd_ne hb] at e ⊢; exact s b x e
  · by_cases hb : b = p
    · subst hb; exact absurd hp h1.ne
    · rw [upd_ne hb] at h2; exact h2
end
def RowOk (K : PySem.W.Frag) (r : RA) (H G : Hp) (w : Option W) : Prop :=
  match r, w with
  | none, none => True
  | some (a, s, ns), some w => H a = some (.lst [.ref s, .int w.a, .int w.b, .int w.c]) ∧ G a = none ∧ w.ns = ns ∧ SqL K H s (ns.map V.int)
  | _, _ => False
section
variable {K : PySem.W.Frag} {H G H' G' : Hp} {r : RA} {w w' : Option W}
theorem map_int_ne {ns : List Int} {s : Addr} {l : List V} : ns.map V.int ≠ V.ref s :: l := fun z => by
  cases ns with
  | nil => cases z
  | cons i r => injection z with z _; cases z
theorem RowOk.sq {a s : Addr} {ns : List Int} {w : W} (q : RowOk K (some (a, s, ns)) H G (some w)) (f : ∀ p o, notR (some (a, s, ns)) p → H p = some o → H' p = some o) : SqL K H' s (ns.map V.int) := by
  obtain ⟨h1, h2, h3, h4⟩ := q
  rcases h4 with (h4 | ⟨o, h4⟩) | h4
  · refine .inl (.inl (f s _ (fun a' s' ns' z e => ?_) h4))
    cases z
    rw [e, h1] at h4
    injection h4 with h4
    injection h4 with h4
    exact map_int_ne h4.symm
  · refine .inl (.inr ⟨o, f s _ (fun a' s' ns' z e => ?_) h4⟩)
    cases z
    rw [e, h1] at h4
    cases h4
  · exact .inr h4
/-- the draw list as it lies behind changes elsewhere -/
theorem RowOk.move (q : RowOk K r H G w) (f : ∀ p o, notR r p → H p = some o → H' p = some o) {H2 G2 : Hp} (q2 : RowOk K r H2 G2 w') (ha : ∀ a s ns, r = some (a, s, ns) → H' a = H2 a ∧ G' a = none) : RowOk K r H' G' w' := by
  cases r with
  | none => cases w' with
    | none => trivial
    | some _ => exact q2
  | some p =>
    obtain ⟨a, s, ns⟩ := p
    cases w' with
    | none => exact q2
    | some w' =>
      cases w with
      | none => exact q.elim
      | some w =>
        obtain ⟨e1, e2⟩ := ha a s ns rfl
        exact ⟨e1.trans q2.1, e2, q2.2.2.1, q.sq f⟩
theorem RowOk.grow (q : RowOk K r H G w) (e : Grow H G H' G') : RowOk K r H' G' w := by
  refine q.move (fun p o _ => e.h p o) q fun a s ns z => ?_
  subst z
  cases w with
  | none => exact q.elim
  | some w =>
    refine ⟨(e.h _ _ q.1).trans q.1.symm, ?_⟩
    cases z : G' a with
    | none => rfl
    | some o => exact absurd q.2.1 (e.n a ⟨_, q.1, rfl⟩ (by rw [z]; exact fun z => nomatch z))
/-- what is not there is not the draw list -/
theorem RowOk.off (q : RowOk K r H G w) {p : Addr} (h : H p = none) : notR r p := by
  rintro a s ns rfl rfl
  cases w with
  | none => exact q
  | some w => rw [q.1] at h; cases h
end

/-- where an expression is read -/
structure Pre (K : PySem.W.Frag) (ir : Option Nat) (σ : St) (H G : Hp) (r : RA) (ρ : Env) (w : Option W) : Prop where
  sub : Same G H
  row : RowOk K r H G w
  var : ∀ (i : Nat) (d : D), ρ[i]? = some (some d) → ∃ v, σ[i]? = some (some v) ∧ Rep G v d
  rowv : ∀ a s ns, r = some (a, s, ns) → ∃ i, ir = some i ∧ σ[i]? = some (some (.ref a))
  len : ρ.length ≤ σ.length
theorem Pre.next {K : PySem.W.Frag} {ir : Option Nat} {σ : St} {H G H' G' : Hp} {r : RA} {ρ : Env} {w w' : Option W} (P : Pre K ir σ H G r ρ w) (e : Ext r H G H' G') (q : RowOk K r H' G' w') : Pre K ir σ H' G' r ρ w' :=
  ⟨e.s, q, fun i d h => let ⟨v, h1, h2⟩ := P.var i d h; ⟨v, h1, h2.mono e.g⟩, P.rowv, P.len⟩

section
variable (F : Orc) (K : PySem.W.Frag) (ir : Option Nat)
def RE (m : E) : TE := fun σ H Q => ∃ G r ρ w d w', Pre K ir σ H G r ρ w ∧ ev F m ρ w = some (d, w') ∧ ∀ v H' G', Ext r H G H' G' → RowOk K r H' G' w' → Rep G' v d → Q v H'
def RB (m : E) : TT := fun σ H Q => ∃ G r ρ w b w', Pre K ir σ H G r ρ w ∧ ev F m ρ w = some (.bl b, w') ∧ ∀ H' G', Ext r H G H' G' → RowOk K r H' G' w' → Q b H'
def RS (ms : List E) : TA := fun σ H Q => ∃ G r ρ w ds w', Pre K ir σ H G r ρ w ∧ evs F ms ρ w = some (ds, w') ∧ ∀ vs H' G', Ext r H G H' G' → RowOk K r H' G' w' → Reps G' vs ds → Q vs H'
end
theorem PE.imp {X : Cx} {e : Expr} {t t' : TE} (h : PE X e t) (f : ∀ σ H Q, t' σ H Q → t σ H Q) : PE X e t' := ⟨fun pins s σ H Q I q => h.run pins s σ H Q I (f σ H Q q)⟩
theorem PT.imp {X : Cx} {e : Expr} {t t' : TT} (h : PT X e t) (f : ∀ σ H Q, t' σ H Q → t σ H Q) : PT X e t' := ⟨fun pins s σ H Q I q => h.run pins s σ H Q I (f σ H Q q)⟩
theorem PA.imp {X : Cx} {e : List Expr} {t t' : TA} (h : PA X e t) (f : ∀ σ H Q, t' σ H Q → t σ H Q) : PA X e t' := ⟨fun pos pins s σ H Q I q => h.run pos pins s σ H Q I (f σ H Q q)⟩

/-! ### operators by values -/
def rD2 (f : D → D → Option D) : R2 := fun v u H Q => ∃ G x y d, Same G H ∧ Rep G v x ∧ Rep G u y ∧ f x y = some d ∧ ∀ z H' G', Grow H G H' G' → Rep G' z d → Q z H'
def rC2 (f : D → D → Option Bool) : R2 := fun v u H Q => ∃ G x y b, Same G H ∧ Rep G v x ∧ Rep G u y ∧ f x y = some b ∧ Q (.bl b) H
section
variable {X : Cx}
theorem big_iff {i : Int} (h : big i = true) : -(2 ^ 64) < i ∧ i < 2 ^ 64 := by
  unfold big at h
  simp only [Bool.and_eq_true, decide_eq_true_eq] at h
  exact h
theorem okLen_iff {n : Nat} (h : okLen n = true) : n ≤ sizeLine := of_decide_eq_true h
theorem rep_tup {G : Hp} {p : Addr} {vs : List V} {ds : List D} (hp : G p = none) (r : Reps G vs ds) : Rep (upd G p (.tup vs)) (.ref p) (.tup ds) :=
  .tup upd_same (r.mono (same_new hp))
theorem rep_lst {G : Hp} {p : Addr} {vs : List V} {ds : List D} (hp : G p = none) (r : Reps G vs ds) : Rep (upd G p (.lst vs)) (.ref p) (.lst ds) :=
  .lst upd_same (r.mono (same_new hp))
theorem ok_add : OpR X (binaryOp .Add) (rD2 (opD .Add)) := by
  intro pins s σ H x y v u Q I rx ry h
  obtain ⟨G, a, b, d, sb, ha, hb, e, q⟩ := h
  cases ha with
  | int i => cases hb with
    | int j => cases e; exact op_add pins s σ H _ _ v u Q I rx ry ⟨i, j, rfl, rfl, q _ H G (.refl sb) (.int _)⟩
    | _ => cases e
  | @tup p vs ds g1 r1 => cases hb with
    | @tup p2 vs2 ds2 g2 r2 =>
      simp only [opD] at e
      split at e
      · rename_i c
        have c1 := okLen_iff c
        cases e
        refine op_catA pins s σ H _ _ v u Q I rx ry ⟨p, p2, vs, vs2, rfl, rfl, .of (sb _ _ g1), .of (sb _ _ g2), by rw [r1.length, r2.length]; exact c1, fun z => ?_, fun _ z => ?_, fun _ z p' hp => ?_⟩
        · subst z; cases r1
          exact q _ H G (.refl sb) (.tup g2 r2)
        · subst z; cases r2
          exact q _ H G (.refl sb) (by rw [List.append_nil]; exact .tup g1 r1)
        · exact q _ _ _ (.new sb hp) (rep_tup (Same.free sb hp) (r1.append r2))
      · cases e
    | _ => cases e
  | @lst p vs ds g1 r1 => cases hb with
    | @lst p2 vs2 ds2 g2 r2 =>
      simp only [opD] at e
      split at e
      · rename_i c
        have c1 := okLen_iff c
        cases e
        refine op_cat pins s σ H _ _ v u Q I rx ry ⟨p, p2, vs, vs2, rfl, rfl, sb _ _ g1, sb _ _ g2, by rw [r1.length, r2.length]; exact c1, fun p' hp => ?_⟩
        exact q _ _ _ (.new sb hp) (rep_lst (Same.free sb hp) (r1.append r2))
      · cases e
    | _ => cases e
  | _ => cases e
theorem ok_int2 {op : Operator} {C : Int → Int → Prop} {g : Int → Int → Int} (rule : OpR X (binaryOp op) (rI C fun i j => .int (g i j)))
    (hop : ∀ x y d, opD op x y = some d → ∃ i j, x = .int i ∧ y = .int j ∧ C i j ∧ d = .int (g i j)) : OpR X (binaryOp op) (rD2 (opD op)) := by
  intro pins s σ H x y v u Q I rx ry h
  obtain ⟨G, a, b, d, sb, ha, hb, e, q⟩ := h
  obtain ⟨i, j, rfl, rfl, c, rfl⟩ := hop _ _ _ e
  cases ha
  cases hb
  exact rule pins s σ H _ _ v u Q I rx ry ⟨i, j, rfl, rfl, c, q _ H G (.refl sb) (.int _)⟩
theorem ok_opD (op : Operator) : OpR X (binaryOp op) (rD2 (opD op)) := by
  have no : ∀ {f : D → D → Option D}, (∀ x y, f x y = none) → OpR X (binaryOp op) (rD2 f) := fun {f} hf pins s σ H x y v u Q I rx ry h => by
    obtain ⟨G, a, b, d, sb, ha, hb, e, q⟩ := h
    rw [hf] at e; cases e
  cases op with
  | Add => exact ok_add
  | Sub =>
    refine ok_int2 (C := fun _ _ => True) (g := fun i j => i - j) (fun pins s σ H x y v u Q I rx ry h => ?_) fun x y d e => ?_
    · obtain ⟨i, j, e1, e2, _, q⟩ := h
      exact op_sub pins s σ H x y v u Q I rx ry ⟨i, j, e1, e2, q⟩
    · cases x <;> cases y <;> first | (cases e; exact ⟨_, _, rfl, rfl, trivial, rfl⟩) | cases e
  | Mult =>
    intro pins s σ H x y v u Q I rx ry h
    obtain ⟨G, a, b, d, sb, ha, hb, e, q⟩ := h
    cases ha with
    | int i => cases hb with
      | int j =>
        simp only [opD] at e
        split at e
        · rename_i c
          rw [Bool.or_eq_true] at c
          cases e
          exact op_mul pins s σ H _ _ v u Q I rx ry ⟨i, j, rfl, rfl, c.imp big_iff big_iff, q _ H G (.refl sb) (.int _)⟩
        · cases e
      | _ => cases e
    | @tup p vs ds g1 r1 => cases hb with
      | int n =>
        simp only [opD] at e
        split at e
        · rename_i c
          simp only [Bool.and_eq_true, decide_eq_true_eq] at c
          obtain ⟨⟨⟨c1, c2⟩, c3⟩, c4⟩ := c
          cases e
          by_cases h1 : n = 1
          · subst h1
            refine op_rep1 pins s σ H _ _ v u Q I rx ry ⟨p, vs, rfl, rfl, .of (sb _ _ g1), q _ H G (.refl sb) ?_⟩
            rw [show (List.replicate (1 : Int).toNat ds).flatten = ds by simp]
            exact .tup g1 r1
          · refine op_repT pins s σ H _ _ v u Q I rx ry ⟨p, n, vs, rfl, rfl, .of (sb _ _ g1), fun z => ?_, by omega, c4, by rw [r1.length]; exact c2, fun p' hp => q _ _ _ (.new sb hp) (rep_tup (Same.free sb hp) (r1.flat n.toNat))⟩
            have := r1.length
            rw [z] at this
            simp at this
            omega
        · cases e
      | _ => cases e
    | @lst p vs ds g1 r1 => cases hb with
      | int n =>
        simp only [opD] at e
        split at e
        · rename_i c
          simp only [Bool.and_eq_true, decide_eq_true_eq] at c
          obtain ⟨⟨c1, c2⟩, c3⟩ := c
          cases e
          exact op_rep pins s σ H _ _ v u Q I rx ry ⟨p, n, vs, rfl, rfl, sb _ _ g1, by omega, by omega, by rw [r1.length]; exact of_decide_eq_true c3, fun p' hp => q _ _ _ (.new sb hp) (rep_lst (Same.free sb hp) (r1.flat n.toNat))⟩
        · cases e
      | _ => cases e
    | _ => cases e
  | BitOr =>
    refine ok_int2 (C := fun _ _ => True) (g := fun i j => Builtin.bitOr i j) (fun pins s σ H x y v u Q I rx ry h => ?_) fun x y d e => ?_
    · obtain ⟨i, j, e1, e2, _, q⟩ := h
      exact op_or pins s σ H x y v u Q I rx ry ⟨i, j, e1, e2, q⟩
    · cases x <;> cases y <;> first | (cases e; exact ⟨_, _, rfl, rfl, trivial, rfl⟩) | cases e
  | BitAnd =>
    refine ok_int2 (C := fun _ _ => True) (g := fun i j => Builtin.bitAnd i j) (fun pins s σ H x y v u Q I rx ry h => ?_) fun x y d e => ?_
    · obtain ⟨i, j, e1, e2, _, q⟩ := h
      exact op_and pins s σ H x y v u Q I rx ry ⟨i, j, e1, e2, q⟩
    · cases x <;> cases y <;> first | (cases e; exact ⟨_, _, rfl, rfl, trivial, rfl⟩) | cases e
  | LShift =>
    refine ok_int2 op_shl fun x y d e => ?_
    cases x <;> cases y <;> first
      | (simp only [opD] at e
         split at e
         · rename_i c
           simp only [Bool.and_eq_true, decide_eq_true_eq] at c
           cases e
           exact ⟨_, _, rfl, rfl, ⟨c.1.1, c.1.2, c.2⟩, rfl⟩
         · cases e)
      | cases e
  | RShift =>
    refine ok_int2 op_shr fun x y d e => ?_
    cases x <;> cases y <;> first
      | (simp only [opD] at e
         split at e
         · rename_i c
           rw [decide_eq_true_eq] at c
           cases e
           exact ⟨_, _, rfl, rfl, c, rfl⟩
         · cases e)
      | cases e
  | FloorDiv =>
    refine ok_int2 op_fdivN fun x y d e => ?_
    cases x <;> cases y <;> first
      | (simp only [opD] at e
         split at e
         · rename_i c
           rw [Bool.and_eq_true, decide_eq_true_eq, decide_eq_true_eq] at c
           cases e
           exact ⟨_, _, rfl, rfl, c, rfl⟩
         · cases e)
      | cases e
  | Mod =>
    refine ok_int2 op_modN fun x y d e => ?_
    cases x <;> cases y <;> first
      | (simp only [opD] at e
         split at e
         · rename_i c
           rw [decide_eq_true_eq] at c
           cases e
           exact ⟨_, _, rfl, rfl, c, rfl⟩
         · cases e)
      | cases e
  | Pow =>
    refine ok_int2 op_pow fun x y d e => ?_
    cases x <;> cases y <;> first
      | (simp only [opD] at e
         split at e
         · rename_i c
           simp only [Bool.and_eq_true, decide_eq_true_eq] at c
           cases e
           exact ⟨_, _, rfl, rfl, ⟨c.1.1, c.1.2, c.2⟩, rfl⟩
         · cases e)
      | cases e
  | _ => exact no fun x y => by cases x <;> cases y <;> rfl

/-! ### comparisons -/
mutual
theorem Rep.dp {K : PySem.W.Frag} {G H : Hp} (sb : Same G H) : ∀ {v : V} {d : D}, Rep G v d → d.noDict = true → Dp K H v d.toP
  | _, _, .non, _ => .non
  | _, _, .bl b, _ => .bl b
  | _, _, .int i, _ => .int i
  | _, _, .str z, _ => .str z
  | _, _, .tup h r, n => by simp only [D.toP]; exact .tup (.of (sb _ _ h)) (Reps.dp sb r (by simpa only [D.noDict] using n))
  | _, _, .lst h r, n => by simp only [D.toP]; exact .lst (.of (sb _ _ h)) (Reps.dp sb r (by simpa only [D.noDict] using n))
  | _, _, .dK _ _ _, n => by simp [D.noDict] at n
  | _, _, .dT _ _ _, n => by simp [D.noDict] at n
theorem Reps.dp {K : PySem.W.Frag} {G H : Hp} (sb : Same G H) : ∀ {vs : List V} {ds : List D}, Reps G vs ds → D.noDicts ds = true → DpAll K H vs (D.toPs ds)
  | _, _, .nil, _ => .nil
  | _, _, .cons h r, n => by
    simp only [D.noDicts, Bool.and_eq_true] at n
    simp only [D.toPs]
    exact .cons (Rep.dp sb h n.1) (Reps.dp sb r n.2)
end
theorem eqOk_iff {d : D} (h : eqOk d = true) : d.noDict = true ∧ SeqAt.shaped d.toP = true := by
  unfold eqOk at h
  rwa [Bool.and_eq_true] at h
theorem ok_cmpEq (hu : X.A.units + 64 < cLine) : OpR X (compareOp .Eq) (rC2 (cmpD .Eq)) := by
  intro pins s σ H x y v u Q I rx ry h
  obtain ⟨G, a, b, k, sb, ha, hb, e, q⟩ := h
  have e' : (if eqOk a && eqOk b then some (eqD a b) else none) = some k := by rw [← e]; simp only [cmpD]
  split at e'
  · rename_i c
    rw [Bool.and_eq_true] at c
    obtain ⟨a1, a2⟩ := eqOk_iff c.1
    obtain ⟨b1, b2⟩ := eqOk_iff c.2
    cases e'
    exact op_eqD hu pins s σ H x y v u Q I rx ry ⟨a.toP, b.toP, ha.dp sb a1, hb.dp sb b1, a2, b2, q⟩
  · cases e'
theorem ok_cmpNe (hu : X.A.units + 64 < cLine) : OpR X (compareOp .NotEq) (rC2 (cmpD .NotEq)) := by
  intro pins s σ H x y v u Q I rx ry h
  obtain ⟨G, a, b, k, sb, ha, hb, e, q⟩ := h
  have e' : (if eqOk a && eqOk b then some (!eqD a b) else none) = some k := by rw [← e]; simp only [cmpD]
  split at e'
  · rename_i c
    rw [Bool.and_eq_true] at c
    obtain ⟨a1, a2⟩ := eqOk_iff c.1
    obtain ⟨b1, b2⟩ := eqOk_iff c.2
    cases e'
    exact op_neD hu pins s σ H x y v u Q I rx ry ⟨a.toP, b.toP, ha.dp sb a1, hb.dp sb b1, a2, b2, q⟩
  · cases e'
theorem ok_cmpI {op : CmpOp} {g : Int → Int → Bool} (rule : OpR X (compareOp op) (rI0 fun i j => .bl (g i j)))
    (hop : ∀ x y k, cmpD op x y = some k → ∃ i j, x = .int i ∧ y = .int j ∧ k = g i j) : OpR X (compareOp op) (rC2 (cmpD op)) := by
  intro pins s σ H x y v u Q I rx ry h
  obtain ⟨G, a, b, k, sb, ha, hb, e, q⟩ := h
  obtain ⟨i, j, rfl, rfl, rfl⟩ := hop _ _ _ e
  cases ha
  cases hb
  exact rule pins s σ H _ _ v u Q I rx ry ⟨i, j, rfl, rfl, q⟩
/-- what stands for data is the data's alone -/
theorem zip_inj {α β γ : Type} : ∀ {ks ks' : List α} {vs vs' : List β}, ks.length = vs.length → ks'.length = vs'.length → ks.zip vs = ks'.zip vs' → ks = ks' ∧ vs = vs'
  | [], [], [], [], _, _, _ => ⟨rfl, rfl⟩
  | k :: ks, k' :: ks', v :: vs, v' :: vs', h, h', e => by
    rw [List.zip_cons_cons, List.zip_cons_cons] at e
    injection e with e1 e2
    injection e1 with e3 e4
    obtain ⟨r1, r2⟩ := zip_inj (γ := γ) (by simpa using h) (by simpa using h') e2
    exact ⟨by rw [e3, r1], by rw [e4, r2]⟩
  | [], k' :: ks', [], v' :: vs', _, _, e => by simp at e
  | k :: ks, [], v :: vs, [], _, _, e => by simp at e
  | [], _ , _ :: _, _, h, _, _ => by simp at h
  | _ :: _, _, [], _, h, _, _ => by simp at h
  | _, [], _, _ :: _, _, h, _ => by simp at h
  | _, _ :: _, _, [], _, h, _ => by simp at h
mutual
theorem Rep.inj {G : Hp} : ∀ {v : V} {d d' : D}, Rep G v d → Rep G v d' → d = d'
  | _, _, _, .non, .non => rfl
  | _, _, _, .bl _, .bl _ => rfl
  | _, _, _, .int _, .int _ => rfl
  | _, _, _, .str _, .str _ => rfl
  | _, _, _, .tup h r, .tup h' r' => by rw [h] at h'; cases h'; rw [Reps.inj r r']
  | _, _, _, .lst h r, .lst h' r' => by rw [h] at h'; cases h'; rw [Reps.inj r r']
  | _, _, _, .dK h l r, .dK h' l' r' => by
    rw [h] at h'
    injection h' with h'
    injection h' with h'
    obtain ⟨e1, e2⟩ := zip_inj (γ := Unit) l l' h'
    subst e1; subst e2
    rw [Reps.inj r r']
  | _, _, _, .dT h l r, .dT h' l' r' => by
    rw [h] at h'
    injection h' with h'
    injection h' with h'
    obtain ⟨e1, e2⟩ := zip_inj (γ := Unit) l l' h'
    subst e1; subst e2
    rw [Reps.inj r r']
  | _, _, _, .tup h _, .lst h' _ => by rw [h] at h'; cases h'
  | _, _, _, .tup h _, .dK h' _ _ => by rw [h] at h'; cases h'
  | _, _, _, .tup h _, .dT h' _ _ => by rw [h] at h'; cases h'
  | _, _, _, .lst h _, .tup h' _ => by rw [h] at h'; cases h'
  | _, _, _, .lst h _, .dK h' _ _ => by rw [h] at h'; cases h'
  | _, _, _, .lst h _, .dT h' _ _ => by rw [h] at h'; cases h'
  | _, _, _, .dK h _ _, .tup h' _ => by rw [h] at h'; cases h'
  | _, _, _, .dK h _ _, .lst h' _ => by rw [h] at h'; cases h'
  | _, _, _, .dK h _ _, .dT h' _ _ => by rw [h] at h'; cases h'
  | _, _, _, .dT h _ _, .tup h' _ => by rw [h] at h'; cases h'
  | _, _, _, .dT h _ _, .lst h' _ => by rw [h] at h'; cases h'
  | _, _, _, .dT h _ _, .dK h' _ _ => by rw [h] at h'; cases h'
theorem Reps.inj {G : Hp} : ∀ {vs : List V} {ds ds' : List D}, Reps G vs ds → Reps G vs ds' → ds = ds'
  | _, _, _, .nil, .nil => rfl
  | _, _, _, .cons h r, .cons h' r' => by rw [Rep.inj h h', Reps.inj r r']
end
/-- a value's answer to == d -/
noncomputable def ansD (G : Hp) (d : D) (u : Value) : Bool := @decide (∃ y e, RelV y u ∧ Rep G y e ∧ eqD e d = true) (Classical.propDecidable _)
theorem ansD_of {G : Hp} {d e : D} {y : V} {u : Value} (r : RelV y u) (h : Rep G y e) : ansD G d u = eqD e d := by
  unfold ansD
  cases q : eqD e d with
  | true => exact @decide_eq_true _ (Classical.propDecidable _) ⟨y, e, r, h, q⟩
  | false =>
    refine @decide_eq_false _ (Classical.propDecidable _) ?_
    rintro ⟨y', e', r', h', q'⟩
    rw [r.inj r'] at h
    rw [h.inj h'] at q
    rw [q] at q'; cases q'
theorem any_ansD {G : Hp} {d : D} : ∀ {xs : List V} {ds : List D} {us : List Value}, Reps G xs ds → Vals xs us → us.any (ansD G d) = inD d ds
  | _, _, _, .nil, .nil => rfl
  | _, _, _, .cons h r, .cons r1 r2 => by
    unfold inD
    rw [List.any_cons, List.any_cons, ansD_of r1 h, any_ansD r r2]
    rfl
theorem mem_ansD {A : Around} {pins : List (Addr × Obj)} {σ : St} {H G : Hp} {s : Shared} {x : V} {v : Value} {d : D} (I : Inv X pins σ H s) (sb : Same G H) (hu : A.units + 64 < cLine) (hd : Rep G x d) (od : eqOk d = true) (rx : RelV x v) :
    ∀ {xs : List V} {ds : List D} {us : List Value}, Reps G xs ds → ds.all eqOk = true → Vals xs us → ∀ u ∈ us, SeqAt.EqAt A s u v (ansD G d u)
  | _, _, _, .nil, _, .nil => fun u hu => nomatch hu
  | _, _, _, .cons h r, a, .cons r1 r2 => fun u hm => by
    rw [List.all_cons, Bool.and_eq_true] at a
    rcases List.mem_cons.mp hm with rfl | hm
    · rw [ansD_of r1 h]
      obtain ⟨n1, s1⟩ := eqOk_iff a.1
      obtain ⟨n2, s2⟩ := eqOk_iff od
      obtain ⟨as, q1⟩ := Dp.reads I _ _ _ (h.dp sb n1) r1
      obtain ⟨bs, q2⟩ := Dp.reads I _ _ _ (hd.dp sb n2) rx
      exact SeqAt.eqAt_reads _ _ A s _ v as bs q1 q2 (SeqAt.canLay_of_shaped s1) (SeqAt.canLay_of_shaped s2) (SeqAt.room_of_shaped s1 hu)
    · exact mem_ansD I sb hu hd od rx r a.2 r2 u hm
theorem in_inv {x y : D} {k : Bool} (h : cmpD .In x y = some k) : ∃ ys, (y = .lst ys ∨ y = .tup ys) ∧ eqOk x = true ∧ ys.all eqOk = true ∧ k = inD x ys := by
  cases y with
  | lst ys =>
    have e : (if eqOk x && ys.all eqOk then some (inD x ys) else none) = some k := by rw [← h]; cases x <;> rfl
    split at e
    · rename_i c
      rw [Bool.and_eq_true] at c
      cases e
      exact ⟨ys, .inl rfl, c.1, c.2, rfl⟩
    · cases e
  | tup ys =>
    have e : (if eqOk x && ys.all eqOk then some (inD x ys) else none) = some k := by rw [← h]; cases x <;> rfl
    split at e
    · rename_i c
      rw [Bool.and_eq_true] at c
      cases e
      exact ⟨ys, .inr rfl, c.1, c.2, rfl⟩
    · cases e
  | _ => cases x <;> cases h
theorem notin_inv {x y : D} {k : Bool} (h : cmpD .NotIn x y = some k) : ∃ ys, (y = .lst ys ∨ y = .tup ys) ∧ eqOk x = true ∧ ys.all eqOk = true ∧ k = !inD x ys := by
  cases y with
  | lst ys =>
    have e : (if eqOk x && ys.all eqOk then some (!inD x ys) else none) = some k := by rw [← h]; cases x <;> rfl
    split at e
    · rename_i c
      rw [Bool.and_eq_true] at c
      cases e
      exact ⟨ys, .inl rfl, c.1, c.2, rfl⟩
    · cases e
  | tup ys =>
    have e : (if eqOk x && ys.all eqOk then some (!inD x ys) else none) = some k := by rw [← h]; cases x <;> rfl
    split at e
    · rename_i c
      rw [Bool.and_eq_true] at c
      cases e
      exact ⟨ys, .inr rfl, c.1, c.2, rfl⟩
    · cases e
  | _ => cases x <;> cases h
theorem ok_cmpIn (hu : X.A.units + 100 < cLine) : OpR X (compareOp .In) (rC2 (cmpD .In)) := by
  intro pins s σ H x y v u Q I rx ry h
  obtain ⟨G, a, b, k, sb, ha, hb, e, q⟩ := h
  obtain ⟨ys, hy, oa, oy, rfl⟩ := in_inv e
  rcases hy with rfl | rfl
  · cases hb with
    | @lst p vs ds g r =>
      cases ry
      obtain ⟨its, rv, pl, hz⟩ := I.list (.of (sb _ _ g))
      refine SeqAt.in_listAt (ansD G a) pl.isList (fun w hw => mem_ansD (A := X.A.in1) I sb (show X.A.units + 1 + 64 < cLine by omega) ha oa rx r oy rv w (by simpa using hw)) ⟨.bl _, H, I, rfl, ?_⟩
      rw [show its.toArray.any (ansD G a) = its.any (ansD G a) by simp, any_ansD r rv]
      exact q
  · cases hb with
    | @tup p vs ds g r =>
      cases ry
      obtain ⟨its, rv, pl, hz⟩ := I.tuple (.of (sb _ _ g))
      refine SeqAt.in_tupleAt (ansD G a) pl (fun w hw => mem_ansD (A := X.A.in1) I sb (show X.A.units + 1 + 64 < cLine by omega) ha oa rx r oy rv w (by simpa using hw)) ⟨.bl _, H, I, rfl, ?_⟩
      rw [show its.toArray.any (ansD G a) = its.any (ansD G a) by simp, any_ansD r rv]
      exact q
theorem ok_cmpNotIn (hu : X.A.units + 100 < cLine) : OpR X (compareOp .NotIn) (rC2 (cmpD .NotIn)) := by
  intro pins s σ H x y v u Q I rx ry h
  obtain ⟨G, a, b, k, sb, ha, hb, e, q⟩ := h
  obtain ⟨ys, hy, oa, oy, rfl⟩ := notin_inv e
  rcases hy with rfl | rfl
  · cases hb with
    | @lst p vs ds g r =>
      cases ry
      obtain ⟨its, rv, pl, hz⟩ := I.list (.of (sb _ _ g))
      refine SeqAt.notIn_listAt (ansD G a) pl.isList (fun w hw => mem_ansD (A := X.A.in1) I sb (show X.A.units + 1 + 64 < cLine by omega) ha oa rx r oy rv w (by simpa using hw)) ⟨.bl _, H, I, rfl, ?_⟩
      rw [show its.toArray.any (ansD G a) = its.any (ansD G a) by simp, any_ansD r rv]
      exact q
  · cases hb with
    | @tup p vs ds g r =>
      cases ry
      obtain ⟨its, rv, pl, hz⟩ := I.tuple (.of (sb _ _ g))
      refine SeqAt.notIn_tupleAt (ansD G a) pl (fun w hw => mem_ansD (A := X.A.in1) I sb (show X.A.units + 1 + 64 < cLine by omega) ha oa rx r oy rv w (by simpa using hw)) ⟨.bl _, H, I, rfl, ?_⟩
      rw [show its.toArray.any (ansD G a) = its.any (ansD G a) by simp, any_ansD r rv]
      exact q
theorem is_inv {x y : D} {k : Bool} (h : cmpD .Is x y = some k) : y = .non ∧ ∀ {G : Hp} {v : V}, Rep G v x → decide (v = V.non) = k := by
  cases x <;> cases y <;> first
    | (cases h; exact ⟨rfl, fun r => by cases r <;> simp⟩)
    | cases h
theorem isnot_inv {x y : D} {k : Bool} (h : cmpD .IsNot x y = some k) : y = .non ∧ ∀ {G : Hp} {v : V}, Rep G v x → (!decide (v = V.non)) = k := by
  cases x <;> cases y <;> first
    | (cases h; exact ⟨rfl, fun r => by cases r <;> simp⟩)
    | cases h
theorem lt_inv {x y : D} {k : Bool} (h : cmpD .Lt x y = some k) : (∃ i j, x = .int i ∧ y = .int j ∧ k = decide (i < j)) ∨ (eqOk x = true ∧ eqOk y = true ∧ PySem.W.alike x.toP y.toP = true ∧ x.toP ≠ .none ∧ k = ltD x y) := by
  cases x <;> cases y <;> first
    | (cases h; exact .inl ⟨_, _, rfl, rfl, rfl⟩)
    | (rename_i xs ys
       simp only [cmpD] at h
       split at h
       · rename_i c
         unfold ordOk at c
         simp only [Bool.and_eq_true] at c
         cases h
         exact .inr ⟨c.1.1, c.1.2, c.2, (by simp only [D.toP]; exact fun z => (nomatch z)), rfl⟩
       · cases h)
    | cases h
theorem le_inv {x y : D} {k : Bool} (h : cmpD .LtE x y = some k) : (∃ i j, x = .int i ∧ y = .int j ∧ k = decide (i ≤ j)) ∨ (eqOk x = true ∧ eqOk y = true ∧ PySem.W.alike x.toP y.toP = true ∧ x.toP ≠ .none ∧ k = !ltD y x) := by
  cases x <;> cases y <;> first
    | (cases h; exact .inl ⟨_, _, rfl, rfl, rfl⟩)
    | (rename_i xs ys
       simp only [cmpD] at h
       split at h
       · rename_i c
         unfold ordOk at c
         simp only [Bool.and_eq_true] at c
         cases h
         exact .inr ⟨c.1.1, c.1.2, c.2, (by simp only [D.toP]; exact fun z => (nomatch z)), rfl⟩
       · cases h)
    | cases h
theorem ok_cmpD (hu : X.A.units + 100 < cLine) (op : CmpOp) : OpR X (compareOp op) (rC2 (cmpD op)) := by
  cases op with
  | Eq => exact ok_cmpEq (by omega)
  | NotEq => exact ok_cmpNe (by omega)
  | Lt =>
    intro pins s σ H x y v u Q I rx ry h
    obtain ⟨G, a, b, k, sb, ha, hb, e, q⟩ := h
    rcases lt_inv e with ⟨i, j, rfl, rfl, rfl⟩ | ⟨h1, h2, h3, h4, rfl⟩
    · cases ha
      cases hb
      exact op_lt pins s σ H _ _ v u Q I rx ry ⟨i, j, rfl, rfl, q⟩
    · obtain ⟨n1, s1⟩ := eqOk_iff h1
      obtain ⟨n2, s2⟩ := eqOk_iff h2
      obtain ⟨as, q1⟩ := Dp.reads I _ _ _ (ha.dp sb n1) rx
      obtain ⟨bs, q2⟩ := Dp.reads I _ _ _ (hb.dp sb n2) ry
      exact PySem.W.lt_data q1 q2 h3 h4 (SeqAt.room_of_shaped s1 (by omega)) ⟨.bl _, H, I, rfl, q⟩
  | LtE =>
    intro pins s σ H x y v u Q I rx ry h
    obtain ⟨G, a, b, k, sb, ha, hb, e, q⟩ := h
    rcases le_inv e with ⟨i, j, rfl, rfl, rfl⟩ | ⟨h1, h2, h3, h4, rfl⟩
    · cases ha
      cases hb
      exact op_le pins s σ H _ _ v u Q I rx ry ⟨i, j, rfl, rfl, q⟩
    · obtain ⟨n1, s1⟩ := eqOk_iff h1
      obtain ⟨n2, s2⟩ := eqOk_iff h2
      obtain ⟨as, q1⟩ := Dp.reads I _ _ _ (ha.dp sb n1) rx
      obtain ⟨bs, q2⟩ := Dp.reads I _ _ _ (hb.dp sb n2) ry
      exact PySem.W.le_data q1 q2 h3 h4 (SeqAt.room_of_shaped s1 (by omega)) ⟨.bl _, H, I, rfl, q⟩
  | Gt => exact ok_cmpI op_gt fun x y k e => by cases x <;> cases y <;> first | (cases e; exact ⟨_, _, rfl, rfl, rfl⟩) | cases e
  | GtE => exact ok_cmpI op_ge fun x y k e => by cases x <;> cases y <;> first | (cases e; exact ⟨_, _, rfl, rfl, rfl⟩) | cases e
  | In => exact ok_cmpIn hu
  | NotIn => exact ok_cmpNotIn hu
  | Is =>
    intro pins s σ H x y v u Q I rx ry h
    obtain ⟨G, a, b, k, sb, ha, hb, e, q⟩ := h
    obtain ⟨rfl, f⟩ := is_inv e
    cases hb
    exact op_isN pins s σ H x _ v u Q I rx ry ⟨rfl, by rw [f ha]; exact q⟩
  | IsNot =>
    intro pins s σ H x y v u Q I rx ry h
    obtain ⟨G, a, b, k, sb, ha, hb, e, q⟩ := h
    obtain ⟨rfl, f⟩ := isnot_inv e
    cases hb
    exact op_notN pins s σ H x _ v u Q I rx ry ⟨rfl, by rw [f ha]; exact q⟩
end
end Lt

set_option Elab.async false
set_option linter.all false
set_option maxRecDepth 100000
set_option maxHeartbeats 4000000
/-! LtC: each construct of an expression. -/
namespace Lt
open PySem PySem.Spec PyProof.Rows L2
section
variable {X : Cx} {F : Orc} {ir : Option Nat} {pos : Pos}

/-! ### syntax facts -/
def notStar : Expr → Bool
  | .Starred _ _ => false
  | _ => true
def notSlice : Expr → Bool
  | .Slice _ _ _ _ => false
  | _ => true
def plainTest : Expr → Bool
  | .UnaryOp .Not _ _ => false
  | .BoolOp _ _ _ => false
  | .IfExp _ _ _ _ => false
  | .Compare _ _ _ _ => false
  | _ => true
def notSet : Expr → Bool
  | .Set _ _ _ => false
  | _ => true
theorem star_of {e : Expr} (h : notStar e = true) (es : List Expr) (env : PySem.Env) : starEach (e :: es) env = (false, eval e env) :: starEach es env := by
  cases e <;> first | rfl | cases h
theorem plainIx_of {b : Expr} (h : notSlice b = true) : PlainIx b := by
  cases b <;> first | (intro o i; rfl) | cases h
theorem test_of {e : Expr} (h : plainTest e = true) (env : PySem.Env) : ∀ whole, isTrue e env whole = (do let v ← whole; standAt e.pos; holding [v] (truthy v)) := by
  intro whole
  cases e with
  | UnaryOp op a p => cases op <;> first | rfl | cases h
  | BoolOp _ _ _ => cases h
  | IfExp _ _ _ _ => cases h
  | Compare _ _ _ _ => cases h
  | _ => rfl
theorem mark_of {b : Expr} (h : notSet b = true) (op : CmpOp) : behindInMarks op b = false := by
  cases b <;> first | rfl | cases h
theorem set_of {e : Expr} (h : notSet e = true) (env : PySem.Env) (x : Value) : foldedSetIterable e env x = pure x := by
  cases e <;> first | rfl | cases h

/-! ### names and constants -/
theorem e_var {i : Nat} {x : Str} (hN : X.N[i]? = some x) (hv : Vis X.env.scope x) (hd : (x == ("__debug__" : Str)) = false) (hcd : (x == ("__classdict__" : Str)) = false) : PE X (.Name x pos) (RE F X.K ir (.var i)) := by
  refine PE.imp (pe_var hN hv hd hcd) fun σ H Q h => ?_
  obtain ⟨G, r, ρ, w, d, w', P, e, q⟩ := h
  simp only [ev] at e
  split at e
  · rename_i d' hd'
    cases e
    obtain ⟨v, h1, h2⟩ := P.var i d hd'
    exact ⟨v, h1, q v H G (.refl P.sub) P.row h2⟩
  · cases e
theorem e_non {j} : PE X (.Constant .none j pos) (RE F X.K ir .non) := PE.imp pe_non fun σ H Q h => by
  obtain ⟨G, r, ρ, w, d, w', P, e, q⟩ := h
  simp only [ev] at e; cases e
  exact q _ H G (.refl P.sub) P.row .non
theorem e_bl {b j} : PE X (.Constant (.bool b) j pos) (RE F X.K ir (.bl b)) := PE.imp pe_bl fun σ H Q h => by
  obtain ⟨G, r, ρ, w, d, w', P, e, q⟩ := h
  simp only [ev] at e; cases e
  exact q _ H G (.refl P.sub) P.row (.bl b)
theorem e_int {i j} : PE X (.Constant (.int i) j pos) (RE F X.K ir (.int i)) := PE.imp pe_int fun σ H Q h => by
  obtain ⟨G, r, ρ, w, d, w', P, e, q⟩ := h
  simp only [ev] at e; cases e
  exact q _ H G (.refl P.sub) P.row (.int i)
theorem e_str {x j} : PE X (.Constant (.str x) j pos) (RE F X.K ir (.str x)) := PE.imp pe_str fun σ H Q h => by
  obtain ⟨G, r, ρ, w, d, w', P, e, q⟩ := h
  simp only [ev] at e; cases e
  exact q _ H G (.refl P.sub) P.row (.str x)
theorem e_glo {x : Str} {i : Int} {t : Tok} (hg : Gl X x) (hm : X.mg x = some (.int i t)) (hd : (x == ("__debug__" : Str)) = false) : PE X (.Name x pos) (RE F X.K ir (.glo x i)) :=
  PE.imp (pe_glob hg hm (v := .int i) ⟨t, rfl⟩ hd) fun σ H Q h => by
    obtain ⟨G, r, ρ, w, d, w', P, e, q⟩ := h
    simp only [ev] at e; cases e
    exact q _ H G (.refl P.sub) P.row (.int i)
theorem e_never {e : Expr} : PE X e (RE F X.K ir .never) := ⟨fun _ _ _ _ _ _ h => by
  obtain ⟨G, r, ρ, w, d, w', P, e, q⟩ := h
  simp only [ev] at e; cases e⟩

/-! ### operators -/
variable {a b c : Expr} {ma mb mc : E}
theorem e_bin {op : Operator} (ha : PE X a (RE F X.K ir ma)) (hb : PE X b (RE F X.K ir mb)) : PE X (.BinOp a op b pos) (RE F X.K ir (.bin op ma mb)) := by
  refine PE.imp (pe_op (ok_opD op) ha hb) fun σ H Q h => ?_
  obtain ⟨G, r, ρ, w, d, w', P, e, q⟩ := h
  simp only [ev, Option.bind_eq_some_iff, Option.map_eq_some_iff] at e
  obtain ⟨x, e1, y, e2, z, e3, e4⟩ := e
  cases e4
  refine ⟨G, r, ρ, w, x.1, x.2, P, e1, fun v1 H1 G1 x1 o1 r1 => ⟨G1, r, ρ, x.2, y.1, y.2, P.next x1 o1, e2, fun v2 H2 G2 x2 o2 r2 => ?_⟩⟩
  exact ⟨G2, x.1, y.1, d, x2.s, r1.mono x2.g, r2, e3, fun v H' G' g' r' => q v H' G' ((x1.trans x2).trans g'.ext) (o2.grow g') r'⟩
theorem e_neg (ha : PE X a (RE F X.K ir ma)) : PE X (.UnaryOp .USub a pos) (RE F X.K ir (.neg ma)) := by
  refine PE.imp (pe_un un_neg ha) fun σ H Q h => ?_
  obtain ⟨G, r, ρ, w, d, w', P, e, q⟩ := h
  simp only [ev, Option.bind_eq_some_iff] at e
  obtain ⟨x, e1, e2⟩ := e
  obtain ⟨x1, x2⟩ := x
  cases x1 <;> first
    | (cases e2
       refine ⟨G, r, ρ, w, _, _, P, e1, fun v1 H1 G1 x1 o1 r1 => ?_⟩
       cases r1
       exact ⟨_, rfl, q _ H1 G1 x1 o1 (.int _)⟩)
    | cases e2
theorem rd_cmp {op : CmpOp} {σ : St} {H : Hp} {Q : VK} (h : RE F X.K ir (.cmp op ma mb) σ H Q) : tOp (rC2 (cmpD op)) (RE F X.K ir ma) (RE F X.K ir mb) σ H Q := by
  obtain ⟨G, r, ρ, w, d, w', P, e, q⟩ := h
  simp only [ev, Option.bind_eq_some_iff, Option.map_eq_some_iff] at e
  obtain ⟨x, e1, y, e2, z, e3, e4⟩ := e
  cases e4
  refine ⟨G, r, ρ, w, x.1, x.2, P, e1, fun v1 H1 G1 x1 o1 r1 => ⟨G1, r, ρ, x.2, y.1, y.2, P.next x1 o1, e2, fun v2 H2 G2 x2 o2 r2 => ?_⟩⟩
  exact ⟨G2, x.1, y.1, z, x2.s, r1.mono x2.g, r2, e3, q _ H2 G2 (x1.trans x2) o2 (.bl z)⟩
theorem e_cmp {op : CmpOp} (hu : X.A.units + 100 < cLine) (ha : PE X a (RE F X.K ir ma)) (hb : PE X b (RE F X.K ir mb)) (hm : notSet b = true) : PE X (.Compare a [op] [b] pos) (RE F X.K ir (.cmp op ma mb)) :=
  PE.imp (pe_cmpR (ok_cmpD hu op) ha hb (mark_of hm op)) fun σ H Q h => rd_cmp h
/-- a test's reading from a value's -/
theorem rb_of {m : E} {σ : St} {H : Hp} {Q : Bool → Hp → Prop} (h : RB F X.K ir m σ H Q) : RE F X.K ir m σ H (fun x H' => ∃ k, x = .bl k ∧ Q k H') := by
  obtain ⟨G, r, ρ, w, b, w', P, e, q⟩ := h
  exact ⟨G, r, ρ, w, .bl b, w', P, e, fun v H' G' x o r => by cases r; exact ⟨b, rfl, q H' G' x o⟩⟩
theorem t_cmp {op : CmpOp} (hu : X.A.units + 100 < cLine) (ha : PE X a (RE F X.K ir ma)) (hb : PE X b (RE F X.K ir mb)) (hm : notSet b = true) : PT X (.Compare a [op] [b] pos) (RB F X.K ir (.cmp op ma mb)) :=
  PT.imp (pt_cmpR (ok_cmpD hu op) ha hb (mark_of hm op)) fun σ H Q h => rd_cmp (rb_of h)
theorem rd_chain {op op' : CmpOp} {σ : St} {H : Hp} {Q : VK} (h : RE F X.K ir (.chain op op' ma mb mc) σ H Q) : tChain (rC2 (cmpD op)) (rC2 (cmpD op')) (RE F X.K ir ma) (RE F X.K ir mb) (RE F X.K ir mc) σ H Q := by
  obtain ⟨G, r, ρ, w, d, w', P, e, q⟩ := h
  simp only [ev, Option.bind_eq_some_iff] at e
  obtain ⟨x, e1, y, e2, t, e3, e4⟩ := e
  refine ⟨G, r, ρ, w, x.1, x.2, P, e1, fun v1 H1 G1 x1 o1 r1 => ⟨G1, r, ρ, x.2, y.1, y.2, P.next x1 o1, e2, fun v2 H2 G2 x2 o2 r2 => ?_⟩⟩
  refine ⟨G2, x.1, y.1, t, x2.s, r1.mono x2.g, r2, e3, t, rfl, ?_⟩
  cases t with
  | false =>
    cases e4
    exact q _ H2 G2 (x1.trans x2) o2 (.bl false)
  | true =>
    simp only [if_true, Option.bind_eq_some_iff, Option.map_eq_some_iff] at e4
    obtain ⟨z, e5, k, e6, e7⟩ := e4
    cases e7
    refine ⟨G2, r, ρ, y.2, z.1, z.2, (P.next x1 o1).next x2 o2, e5, fun v3 H3 G3 x3 o3 r3 => ?_⟩
    exact ⟨G3, y.1, z.1, k, x3.s, r2.mono x3.g, r3, e6, q _ H3 G3 ((x1.trans x2).trans x3) o3 (.bl k)⟩
theorem e_chain {op op' : CmpOp} (hu : X.A.units + 100 < cLine) (ha : PE X a (RE F X.K ir ma)) (hb : PE X b (RE F X.K ir mb)) (hc : PE X c (RE F X.K ir mc)) (hm : notSet b = true) (hm' : notSet c = true) : PE X (.Compare a [op, op'] [b, c] pos) (RE F X.K ir (.chain op op' ma mb mc)) :=
  PE.imp (pe_chain (ok_cmpD hu op) (ok_cmpD hu op') ha hb hc (by simp only [lastMarks]; exact mark_of hm' op')) fun σ H Q h => rd_chain h
theorem t_chain {op op' : CmpOp} (hu : X.A.units + 100 < cLine) (ha : PE X a (RE F X.K ir ma)) (hb : PE X b (RE F X.K ir mb)) (hc : PE X c (RE F X.K ir mc)) (hm : notSet b = true) (hm' : notSet c = true) : PT X (.Compare a [op, op'] [b, c] pos) (RB F X.K ir (.chain op op' ma mb mc)) :=
  PT.imp (pt_chain (ok_cmpD hu op) (ok_cmpD hu op') ha hb hc (by simp only [lastMarks]; exact mark_of hm' op')) fun σ H Q h => rd_chain (rb_of h)
/-- a op1 b op2 c op3 d -/
def tChain3 (r r' r'' : R2) (ta tb tc td : TE) : TE := fun σ H Q => ta σ H fun x H1 => tb σ H1 fun y H2 => r x y H2 fun z H3 => ∃ k, z = .bl k ∧
  (if k = true then tc σ H3 fun u H4 => r' y u H4 fun z' H5 => ∃ k', z' = .bl k' ∧ (if k' = true then td σ H5 fun t H6 => r'' u t H6 Q else Q (.bl false) H5) else Q (.bl false) H3)
variable {d : Expr} {md : E} {ta tb tc td : TE}
theorem pe_chain3 {op op' op'' : CmpOp} {r r' r'' : R2} (ho : OpR X (compareOp op) r) (ho' : OpR X (compareOp op') r') (ho'' : OpR X (compareOp op'') r'') (ha : PE X a ta) (hb : PE X b tb) (hc : PE X c tc) (hd : PE X d td)
    (hm : lastMarks [op, op', op''] [b, c, d] = false) : PE X (.Compare a [op, op', op''] [b, c, d] pos) (tChain3 r r' r'' ta tb tc td) := by
  refine ⟨fun pins s σ H Q I h => ?_⟩
  refine Compare_chain (thn (ha.run pins s σ H _ I h) fun v s1 ⟨x, H1, I1, r1, q1⟩ => chain_link (thn (hb.run pins s1 σ H1 _ I1 q1) fun u s2 ⟨y, H2, I2, r2, q2⟩ =>
    thn (ho pins s2 σ H2 x y v u _ I2 r1 r2 q2) fun d s3 ⟨z, H3, I3, r3, k, e, q3⟩ => ?_)) hm
  subst e
  cases r3
  refine wpAny_truthy_bool ?_
  cases k with
  | false => exact ite_ff ⟨.bl false, H3, I3, rfl, q3⟩
  | true =>
    refine ite_tt (chain_link (thn (hc.run pins s3 σ H3 _ I3 q3) fun w' s4 ⟨z', H4, I4, r4, q4⟩ => thn (ho' pins s4 σ H4 y z' u w' _ I4 r2 r4 q4) fun d' s5 ⟨z2, H5, I5, r5, k2, e2, q5⟩ => ?_))
    subst e2
    cases r5
    refine wpAny_truthy_bool ?_
    cases k2 with
    | false => exact ite_ff ⟨.bl false, H5, I5, rfl, q5⟩
    | true => exact ite_tt (chain_last (thn (hd.run pins s5 σ H5 _ I5 q5) fun t s6 ⟨tv, H6, I6, r6, q6⟩ => ho'' pins s6 σ H6 z' tv w' t Q I6 r4 r6 q6))
theorem rd_chain3 {op op' op'' : CmpOp} {σ : St} {H : Hp} {Q : VK} (h : RE F X.K ir (.chain3 op op' op'' ma mb mc md) σ H Q) : tChain3 (rC2 (cmpD op)) (rC2 (cmpD op')) (rC2 (cmpD op'')) (RE F X.K ir ma) (RE F X.K ir mb) (RE F X.K ir mc) (RE F X.K ir md) σ H Q := by
  obtain ⟨G, r, ρ, w, d, w', P, e, q⟩ := h
  simp only [ev, Option.bind_eq_some_iff] at e
  obtain ⟨x, e1, y, e2, t, e3, e4⟩ := e
  refine ⟨G, r, ρ, w, x.1, x.2, P, e1, fun v1 H1 G1 x1 o1 r1 => ⟨G1, r, ρ, x.2, y.1, y.2, P.next x1 o1, e2, fun v2 H2 G2 x2 o2 r2 => ?_⟩⟩
  refine ⟨G2, x.1, y.1, t, x2.s, r1.mono x2.g, r2, e3, t, rfl, ?_⟩
  cases t with
  | false =>
    cases e4
    exact q _ H2 G2 (x1.trans x2) o2 (.bl false)
  | true =>
    simp only [if_true, Option.bind_eq_some_iff] at e4
    obtain ⟨z, e5, t', e6, e7⟩ := e4
    refine ⟨G2, r, ρ, y.2, z.1, z.2, (P.next x1 o1).next x2 o2, e5, fun v3 H3 G3 x3 o3 r3 => ?_⟩
    refine ⟨G3, y.1, z.1, t', x3.s, r2.mono x3.g, r3, e6, t', rfl, ?_⟩
    cases t' with
    | false =>
      cases e7
      exact q _ H3 G3 ((x1.trans x2).trans x3) o3 (.bl false)
    | true =>
      simp only [if_true, Option.bind_eq_some_iff, Option.map_eq_some_iff] at e7
      obtain ⟨u, e8, k, e9, e10⟩ := e7
      cases e10
      refine ⟨G3, r, ρ, z.2, u.1, u.2, ((P.next x1 o1).next x2 o2).next x3 o3, e8, fun v4 H4 G4 x4 o4 r4 => ?_⟩
      exact ⟨G4, z.1, u.1, k, x4.s, r3.mono x4.g, r4, e9, q _ H4 G4 (((x1.trans x2).trans x3).trans x4) o4 (.bl k)⟩
theorem e_chain3 {op op' op'' : CmpOp} (hu : X.A.units + 100 < cLine) (ha : PE X a (RE F X.K ir ma)) (hb : PE X b (RE F X.K ir mb)) (hc : PE X c (RE F X.K ir mc)) (hd : PE X d (RE F X.K ir md)) (hm : notSet d = true) :
    PE X (.Compare a [op, op', op''] [b, c, d] pos) (RE F X.K ir (.chain3 op op' op'' ma mb mc md)) :=
  PE.imp (pe_chain3 (ok_cmpD hu op) (ok_cmpD hu op') (ok_cmpD hu op'') ha hb hc hd (by simp only [lastMarks]; exact mark_of hm op'')) fun σ H Q h => rd_chain3 h
theorem tChain3_test {r r' r'' : R2} {σ : St} {H : Hp} {Q : VK} : True := trivial
theorem pt_chain3 {op op' op'' : CmpOp} {r r' r'' : R2} (ho : OpR X (compareOp op) r) (ho' : OpR X (compareOp op') r') (ho'' : OpR X (compareOp op'') r'') (ha : PE X a ta) (hb : PE X b tb) (hc : PE X c tc) (hd : PE X d td)
    (hm : lastMarks [op, op', op''] [b, c, d] = false) : PT X (.Compare a [op, op', op''] [b, c, d] pos) (tTest (tChain3 r r' r'' ta tb tc td)) := by
  refine ⟨fun pins s σ H Q I h => ?_⟩
  refine isTrue_chain (thn (ha.run pins s σ H _ I h) fun v s1 ⟨x, H1, I1, r1, q1⟩ => test_link (thn (hb.run pins s1 σ H1 _ I1 q1) fun u s2 ⟨y, H2, I2, r2, q2⟩ =>
    thn (ho pins s2 σ H2 x y v u _ I2 r1 r2 q2) fun d s3 ⟨z, H3, I3, r3, k, e, q3⟩ => ?_)) hm
  subst e
  cases r3
  refine wpAny_truthy_bool ?_
  cases k with
  | false =>
    obtain ⟨k', e', q'⟩ := q3
    cases e'
    exact ite_ff ⟨H3, I3, q'⟩
  | true =>
    refine ite_tt (test_link (thn (hc.run pins s3 σ H3 _ I3 q3) fun w' s4 ⟨z', H4, I4, r4, q4⟩ => thn (ho' pins s4 σ H4 y z' u w' _ I4 r2 r4 q4) fun d' s5 ⟨z2, H5, I5, r5, k2, e2, q5⟩ => ?_))
    subst e2
    cases r5
    refine wpAny_truthy_bool ?_
    cases k2 with
    | false =>
      obtain ⟨k', e', q'⟩ := q5
      cases e'
      exact ite_ff ⟨H5, I5, q'⟩
    | true =>
      refine ite_tt (test_last (thn (hd.run pins s5 σ H5 _ I5 q5) fun t s6 ⟨tv, H6, I6, r6, q6⟩ => thn (ho'' pins s6 σ H6 z' tv w' t _ I6 r4 r6 q6) fun d' s7 ⟨z3, H7, I7, r7, k3, e3, q7⟩ => ?_))
      subst e3
      cases r7
      exact wpAny_truthy_bool ⟨H7, I7, q7⟩
theorem t_chain3 {op op' op'' : CmpOp} (hu : X.A.units + 100 < cLine) (ha : PE X a (RE F X.K ir ma)) (hb : PE X b (RE F X.K ir mb)) (hc : PE X c (RE F X.K ir mc)) (hd : PE X d (RE F X.K ir md)) (hm : notSet d = true) :
    PT X (.Compare a [op, op', op''] [b, c, d] pos) (RB F X.K ir (.chain3 op op' op'' ma mb mc md)) :=
  PT.imp (pt_chain3 (ok_cmpD hu op) (ok_cmpD hu op') (ok_cmpD hu op'') ha hb hc hd (by simp only [lastMarks]; exact mark_of hm op'')) fun σ H Q h => rd_chain3 (rb_of h)

/-! ### truth -/
theorem isBl_some {x : D} {t : Bool} (h : isBl x = some t) : x = .bl t := by
  cases x <;> first | (cases h; rfl) | cases h
theorem t_val {e : Expr} {m : E} (h : PE X e (RE F X.K ir m)) (hp : plainTest e = true) : PT X e (RB F X.K ir m) :=
  PT.imp (pt_val h (test_of hp X.env)) fun σ H Q q => rb_of q
theorem t_never {e : Expr} : PT X e (RB F X.K ir .never) := ⟨fun _ _ _ _ _ _ h => by
  obtain ⟨G, r, ρ, w, d, w', P, e, q⟩ := h
  simp only [ev] at e; cases e⟩
theorem w_never {e : Expr} : PW X e (RB F X.K ir .never) := ⟨fun _ _ _ _ _ _ _ h => by
  obtain ⟨G, r, ρ, w, d, w', P, e, q⟩ := h
  simp only [ev] at e; cases e⟩
theorem PW.imp {X : Cx} {e : Expr} {t t' : TT} (h : PW X e t) (f : ∀ σ H Q, t' σ H Q → t σ H Q) : PW X e t' := ⟨fun wh pins s σ H Q I q => h.run wh pins s σ H Q I (f σ H Q q)⟩
variable {rest : List Expr}
theorem e_and (ha : PE X a (RE F X.K ir ma)) (hb : PE X (.BoolOp .And (b :: rest) pos) (RE F X.K ir mb)) : PE X (.BoolOp .And (a :: b :: rest) pos) (RE F X.K ir (.and ma mb)) := by
  refine PE.imp (pe_and ha hb) fun σ H Q h => ?_
  obtain ⟨G, r, ρ, w, d, w', P, e, q⟩ := h
  simp only [ev, Option.bind_eq_some_iff] at e
  obtain ⟨⟨x, w1⟩, e1, t, e2, e3⟩ := e
  obtain rfl := isBl_some e2
  refine ⟨G, r, ρ, w, _, w1, P, e1, fun v1 H1 G1 x1 o1 r1 => ?_⟩
  cases r1
  refine ⟨t, rfl, ?_⟩
  cases t with
  | false => cases e3; exact q _ H1 G1 x1 o1 (.bl false)
  | true => exact ⟨G1, r, ρ, w1, d, w', P.next x1 o1, e3, fun v2 H2 G2 x2 o2 r2 => q v2 H2 G2 (x1.trans x2) o2 r2⟩
theorem e_or (ha : PE X a (RE F X.K ir ma)) (hb : PE X (.BoolOp .Or (b :: rest) pos) (RE F X.K ir mb)) : PE X (.BoolOp .Or (a :: b :: rest) pos) (RE F X.K ir (.or ma mb)) := by
  refine PE.imp (pe_or ha hb) fun σ H Q h => ?_
  obtain ⟨G, r, ρ, w, d, w', P, e, q⟩ := h
  simp only [ev, Option.bind_eq_some_iff] at e
  obtain ⟨⟨x, w1⟩, e1, t, e2, e3⟩ := e
  obtain rfl := isBl_some e2
  refine ⟨G, r, ρ, w, _, w1, P, e1, fun v1 H1 G1 x1 o1 r1 => ?_⟩
  cases r1
  refine ⟨t, rfl, ?_⟩
  cases t with
  | true => cases e3; exact q _ H1 G1 x1 o1 (.bl true)
  | false => exact ⟨G1, r, ρ, w1, d, w', P.next x1 o1, e3, fun v2 H2 G2 x2 o2 r2 => q v2 H2 G2 (x1.trans x2) o2 r2⟩
theorem w_and (ha : PT X a (RB F X.K ir ma)) (hb : PW X (.BoolOp .And (b :: rest) pos) (RB F X.K ir mb)) : PW X (.BoolOp .And (a :: b :: rest) pos) (RB F X.K ir (.and ma mb)) := by
  refine PW.imp (pw_and ha hb) fun σ H Q h => ?_
  obtain ⟨G, r, ρ, w, d, w', P, e, q⟩ := h
  simp only [ev, Option.bind_eq_some_iff] at e
  obtain ⟨⟨x, w1⟩, e1, t, e2, e3⟩ := e
  obtain rfl := isBl_some e2
  refine ⟨G, r, ρ, w, t, w1, P, e1, fun H1 G1 x1 o1 => ?_⟩
  cases t with
  | false => cases e3; exact q H1 G1 x1 o1
  | true => exact ⟨G1, r, ρ, w1, d, w', P.next x1 o1, e3, fun H2 G2 x2 o2 => q H2 G2 (x1.trans x2) o2⟩
theorem w_or (ha : PT X a (RB F X.K ir ma)) (hb : PW X (.BoolOp .Or (b :: rest) pos) (RB F X.K ir mb)) : PW X (.BoolOp .Or (a :: b :: rest) pos) (RB F X.K ir (.or ma mb)) := by
  refine PW.imp (pw_or ha hb) fun σ H Q h => ?_
  obtain ⟨G, r, ρ, w, d, w', P, e, q⟩ := h
  simp only [ev, Option.bind_eq_some_iff] at e
  obtain ⟨⟨x, w1⟩, e1, t, e2, e3⟩ := e
  obtain rfl := isBl_some e2
  refine ⟨G, r, ρ, w, t, w1, P, e1, fun H1 G1 x1 o1 => ?_⟩
  cases t with
  | true => cases e3; exact q H1 G1 x1 o1
  | false => exact ⟨G1, r, ρ, w1, d, w', P.next x1 o1, e3, fun H2 G2 x2 o2 => q H2 G2 (x1.trans x2) o2⟩
theorem e_not (ha : PE X a (RE F X.K ir ma)) : PE X (.UnaryOp .Not a pos) (RE F X.K ir (.not ma)) := by
  refine PE.imp (pe_not ha) fun σ H Q h => ?_
  obtain ⟨G, r, ρ, w, d, w', P, e, q⟩ := h
  simp only [ev, Option.bind_eq_some_iff, Option.map_eq_some_iff] at e
  obtain ⟨⟨x, w1⟩, e1, t, e2, e3⟩ := e
  obtain rfl := isBl_some e2
  cases e3
  refine ⟨G, r, ρ, w, _, w1, P, e1, fun v1 H1 G1 x1 o1 r1 => ?_⟩
  cases r1
  exact ⟨t, rfl, q _ H1 G1 x1 o1 (.bl _)⟩
theorem t_not (ha : PT X a (RB F X.K ir ma)) : PT X (.UnaryOp .Not a pos) (RB F X.K ir (.not ma)) := by
  refine PT.imp (pt_not ha) fun σ H Q h => ?_
  obtain ⟨G, r, ρ, w, d, w', P, e, q⟩ := h
  simp only [ev, Option.bind_eq_some_iff, Option.map_eq_some_iff] at e
  obtain ⟨⟨x, w1⟩, e1, t, e2, e3⟩ := e
  obtain rfl := isBl_some e2
  cases e3
  exact ⟨G, r, ρ, w, t, w1, P, e1, fun H1 G1 x1 o1 => q H1 G1 x1 o1⟩
theorem e_ite (hc : PT X c (RB F X.K ir mc)) (ha : PE X a (RE F X.K ir ma)) (hb : PE X b (RE F X.K ir mb)) : PE X (.IfExp c a b pos) (RE F X.K ir (.ite mc ma mb)) := by
  refine PE.imp (pe_ifExp hc ha hb) fun σ H Q h => ?_
  obtain ⟨G, r, ρ, w, d, w', P, e, q⟩ := h
  simp only [ev, Option.bind_eq_some_iff] at e
  obtain ⟨⟨x, w1⟩, e1, t, e2, e3⟩ := e
  obtain rfl := isBl_some e2
  refine ⟨G, r, ρ, w, t, w1, P, e1, fun H1 G1 x1 o1 => ?_⟩
  cases t with
  | true => exact ⟨G1, r, ρ, w1, d, w', P.next x1 o1, e3, fun v2 H2 G2 x2 o2 r2 => q v2 H2 G2 (x1.trans x2) o2 r2⟩
  | false => exact ⟨G1, r, ρ, w1, d, w', P.next x1 o1, e3, fun v2 H2 G2 x2 o2 r2 => q v2 H2 G2 (x1.trans x2) o2 r2⟩

/-! ### lists of arguments, displays -/
variable {es : List Expr} {ms : List E} {e : Expr} {m : E}
theorem s_nil : PA X [] (RS F X.K ir []) := PA.imp pa_nil fun σ H Q h => by
  obtain ⟨G, r, ρ, w, d, w', P, e, q⟩ := h
  simp only [evs] at e; cases e
  exact q [] H G (.refl P.sub) P.row .nil
theorem s_cons (ha : PE X e (RE F X.K ir m)) (hr : PA X es (RS F X.K ir ms)) (hs : notStar e = true) : PA X (e :: es) (RS F X.K ir (m :: ms)) := by
  refine PA.imp (pa_cons ha hr (star_of hs es X.env)) fun σ H Q h => ?_
  obtain ⟨G, r, ρ, w, d, w', P, e, q⟩ := h
  simp only [evs, Option.bind_eq_some_iff, Option.map_eq_some_iff] at e
  obtain ⟨x, e1, y, e2, e3⟩ := e
  cases e3
  exact ⟨G, r, ρ, w, x.1, x.2, P, e1, fun v1 H1 G1 x1 o1 r1 => ⟨G1, r, ρ, x.2, y.1, y.2, P.next x1 o1, e2, fun vs H2 G2 x2 o2 r2 => q _ H2 G2 (x1.trans x2) o2 (.cons (r1.mono x2.g) r2)⟩⟩
theorem e_tup {k : Nat} (h : PA X es (RS F X.K ir ms)) : PE X (.Tuple es k pos) (RE F X.K ir (.tup ms)) := by
  refine PE.imp (pe_tup h) fun σ H Q h => ?_
  obtain ⟨G, r, ρ, w, d, w', P, e, q⟩ := h
  simp only [ev, Option.bind_eq_some_iff] at e
  obtain ⟨x, e1, e2⟩ := e
  split at e2
  · rename_i c
    cases e2
    refine ⟨G, r, ρ, w, x.1, x.2, P, e1, fun vs H1 G1 x1 o1 r1 => ⟨by rw [r1.length]; exact okLen_iff c, fun p hp => ?_⟩⟩
    have g := Grow.new (o := .tup vs) x1.s hp
    exact q _ _ _ (x1.trans g.ext) (o1.grow g) (rep_tup (Same.free x1.s hp) r1)
  · cases e2
theorem e_lst (h : PA X es (RS F X.K ir ms)) : PE X (.List es pos) (RE F X.K ir (.lst ms)) := by
  refine PE.imp (pe_lst h) fun σ H Q h => ?_
  obtain ⟨G, r, ρ, w, d, w', P, e, q⟩ := h
  simp only [ev, Option.bind_eq_some_iff] at e
  obtain ⟨x, e1, e2⟩ := e
  split at e2
  · rename_i c
    cases e2
    refine ⟨G, r, ρ, w, x.1, x.2, P, e1, fun vs H1 G1 x1 o1 r1 => ⟨by rw [r1.length]; exact okLen_iff c, fun p hp => ?_⟩⟩
    have g := Grow.new (o := .lst vs) x1.s hp
    exact q _ _ _ (x1.trans g.ext) (o1.grow g) (rep_lst (Same.free x1.s hp) r1)
  · cases e2

/-! ### subscripts, slices -/
theorem atI_rep {G : Hp} {vs : List V} {ds : List D} {i : Int} {d : D} (r : Reps G vs ds) (h : atI ds i = some d) : ∃ v, atI vs i = some v ∧ Rep G v d := by
  unfold atI at h ⊢
  rw [r.length]
  cases q : ixN ds.length i with
  | none => rw [q] at h; cases h
  | some j =>
    rw [q] at h
    obtain ⟨v, h1, h2⟩ := r.get (i := j) (d := d) h
    exact ⟨v, h1, h2⟩
theorem keyD_rep {G : Hp} {v : V} {d : D} {k : Key} (r : Rep G v d) (h : keyD d = some k) : v = kV k := by
  cases r <;> cases h <;> rfl
theorem keysD_rep {G : Hp} : ∀ {vs : List V} {ds : List D} {k : List Key}, Reps G vs ds → keysD ds = some k → vs = k.map kV
  | _, _, _, .nil, h => by cases h; rfl
  | _, _, _, .cons r rs, h => by
    simp only [keysD, Option.bind_eq_some_iff, Option.map_eq_some_iff] at h
    obtain ⟨a, h1, b, h2, h3⟩ := h
    cases h3
    rw [keyD_rep r h1, keysD_rep rs h2]
    rfl
theorem getT_rep {G : Hp} {k : List Key} {d : D} : ∀ {ks : List (List Key)} {vs : List V} {ds : List D}, ks.length = vs.length → Reps G vs ds → getT (ks.zip ds) k = some d → ∃ v, valV (ks.zip vs) k = some v ∧ Rep G v d
  | [], _, _, _, _, h => by simp [getT] at h
  | x :: ks, v :: vs, e :: ds, hl, .cons r rs, h => by
    rw [List.zip_cons_cons]
    by_cases q : x = k
    · subst q
      have : d = e := by simpa [getT] using h.symm
      subst this
      exact ⟨v, valV_pos rfl, r⟩
    · rw [valV_neg (by exact q)]
      refine getT_rep (by simpa using hl) rs ?_
      unfold getT at h ⊢
      rw [List.zip_cons_cons, List.find?_cons] at h
      simpa [q] using h
  | _ :: _, [], _, hl, _, _ => by cases hl
def rIxD : R2 := fun x y H Q => ∃ a v, x = .ref a ∧ DGet H a y (some v) ∧ Q v H
theorem ix_dict (hu : X.A.units + 1 < cLine) : IxR X rIxD := by
  intro value slice pins s σ H x y v u Q I rx ry h hs
  obtain ⟨a, vv, rfl, g, q⟩ := h
  obtain rfl : v = Value.ref a := rx
  have hT := dict_typeIs I g
  unfold subscriptTail
  refine wpAny_bind ?_
  rw [getitemInPython_of_ne hT.not_modules]
  refine wpAny_bind (wpAny_specialOf hT PySem.F.slot_dict_getitem.lookup ?_)
  have fin : wpAny (model X.prog X.w) X.A (subscripted slice false (.ref a) u) (fun r s₃ => wpAny (model X.prog X.w) X.A (letTemporaryGo value (.ref a) r >>= fun _ => pure r) (EP X pins σ Q) X.xe s₃) X.xe s := by
    rw [hs]
    exact wpAny_operating (wpAny_mono (d_getItem hu I g ry fun w' s3 I3 rw' => ⟨vv, H, I3, rw', q⟩) (fun r s₃ h₃ => wpAny_bind (wpAny_letTemporaryGo (wpAny_pure h₃))) fun _ _ x => x)
  first
    | exact wpAny_pure (wpAny_bind fin)
    | exact wpAny_bind (wpAny_pure (wpAny_bind fin))
    | exact wpAny_bind fin
theorem ix_seqA (hu : X.A.units + 1 < cLine) : IxR X (fun x y H Q => (rIxL X.K x y H Q ∨ rIxT X.K x y H Q) ∨ rIxD x y H Q) := (ix_list.or ix_tup).or (ix_dict hu)
theorem e_idx (hu : X.A.units + 100 < cLine) (ha : PE X a (RE F X.K ir ma)) (hb : PE X b (RE F X.K ir mb)) (hs : notSlice b = true) : PE X (.Subscript a b pos) (RE F X.K ir (.idx ma mb)) := by
  refine PE.imp (pe_ix (ix_seqA (by omega)) ha hb (plainIx_of hs)) fun σ H Q h => ?_
  obtain ⟨G, r, ρ, w, d, w', P, e, q⟩ := h
  simp only [ev, Option.bind_eq_some_iff, Option.map_eq_some_iff] at e
  obtain ⟨⟨x, w1⟩, e1, ⟨y, w2⟩, e2, z, e3, e4⟩ := e
  cases e4
  refine ⟨G, r, ρ, w, x, w1, P, e1, fun v1 H1 G1 x1 o1 r1 => ⟨G1, r, ρ, w1, y, _, P.next x1 o1, e2, fun v2 H2 G2 x2 o2 r2 => ?_⟩⟩
  cases r1 with
  | @lst p vs ds g rs => cases r2 with
    | int i =>
      obtain ⟨v, h1, h2⟩ := atI_rep rs e3
      exact .inl (.inl ⟨p, vs, i, v, rfl, rfl, .of (x2.s _ _ (x2.g _ _ g)), h1, q _ H2 G2 (x1.trans x2) o2 (h2.mono x2.g)⟩)
    | _ => cases e3
  | @tup p vs ds g rs => cases r2 with
    | int i =>
      obtain ⟨v, h1, h2⟩ := atI_rep rs e3
      exact .inl (.inr ⟨p, vs, i, v, rfl, rfl, .of (x2.s _ _ (x2.g _ _ g)), h1, q _ H2 G2 (x1.trans x2) o2 (h2.mono x2.g)⟩)
    | _ => cases e3
  | @dT p ks vs ds g hl rs => cases r2 with
    | @tup b vb db gb rb =>
      have e3 : (keysD db).bind (getT (ks.zip ds)) = some _ := e3
      obtain ⟨k, e5, e6⟩ := Option.bind_eq_some_iff.mp e3
      obtain ⟨v, h1, h2⟩ := getT_rep hl rs e6
      have hk := keysD_rep rb e5
      subst hk
      refine .inr ⟨p, v, rfl, ?_, q _ H2 G2 (x1.trans x2) o2 (h2.mono x2.g)⟩
      rw [← h1]
      exact DGet.t (x2.s _ _ (x2.g _ _ g)) (x2.s _ _ gb)
    | _ => cases e3
  | _ => cases e3
def RO (F : Orc) (K : PySem.W.Frag) (ir : Option Nat) (m : Option E) : TO := fun σ H Q => ∃ G r ρ w o w' i, Pre K ir σ H G r ρ w ∧ evo F m ρ w = some (o, w') ∧ optI o = some i ∧ ∀ H' G', Ext r H G H' G' → RowOk K r H' G' w' → Q i H'
theorem PO.imp {X : Cx} {e : Option Expr} {t t' : TO} (h : PO X e t) (f : ∀ σ H Q, t' σ H Q → t σ H Q) : PO X e t' := ⟨fun pins s σ H Q I q => h.run pins s σ H Q I (f σ H Q q)⟩
theorem o_none : PO X none (RO F X.K ir none) := PO.imp po_none fun σ H Q h => by
  obtain ⟨G, r, ρ, w, o, w', i, P, e, e2, q⟩ := h
  simp only [evo] at e; cases e; cases e2
  exact q H G (.refl P.sub) P.row
theorem o_some (h : PE X e (RE F X.K ir m)) : PO X (some e) (RO F X.K ir (some m)) := PO.imp (po_some h) fun σ H Q h => by
  obtain ⟨G, r, ρ, w, o, w', i, P, e, e2, q⟩ := h
  simp only [evo, Option.map_eq_some_iff] at e
  obtain ⟨x, e1, e3⟩ := e
  obtain ⟨x, w1⟩ := x
  cases e3
  refine ⟨G, r, ρ, w, x, _, P, e1, fun v1 H1 G1 x1 o1 r1 => ?_⟩
  cases r1 <;> first
    | (cases e2; exact ⟨_, rfl, q H1 G1 x1 o1⟩)
    | cases e2
theorem cut_rep {G : Hp} {vs : List V} {ds : List D} (r : Reps G vs ds) (lo hi : Option Int) : Reps G (cutV vs lo hi) (cutD ds lo hi) := by
  unfold cutV cutD
  rw [r.length]
  exact (r.drop _).take _
theorem cut_whole {ds : List D} {lo hi : Option Int} (h : HT.sIx ds.length 0 lo = 0 ∧ HT.sIx ds.length ds.length hi = ds.length) : cutD ds lo hi = ds := by
  unfold cutD
  rw [h.1, h.2, List.drop_zero, Nat.sub_zero]
  exact List.take_length
theorem sl_both : SlR X (fun x lo hi H Q => rSlL X.K x lo hi H Q ∨ rSlA X.K x lo hi H Q) := sl_list.or sl_tupA
theorem e_slice {lo hi : Option Expr} {ml mh : Option E} {p2 : Pos} (ha : PE X a (RE F X.K ir ma)) (hl : PO X lo (RO F X.K ir ml)) (hh : PO X hi (RO F X.K ir mh)) : PE X (.Subscript a (.Slice lo hi none p2) pos) (RE F X.K ir (.slice ma ml mh)) := by
  refine PE.imp (pe_slice sl_both ha hl hh) fun σ H Q h => ?_
  obtain ⟨G, r, ρ, w, d, w', P, e, q⟩ := h
  simp only [ev, Option.bind_eq_some_iff, Option.map_eq_some_iff] at e
  obtain ⟨⟨x, w1⟩, e1, ⟨l, w2⟩, e2, ⟨u, w3⟩, e3, i, e4, j, e5, z, e6, e7⟩ := e
  cases e7
  refine ⟨G, r, ρ, w, x, w1, P, e1, fun v1 H1 G1 x1 o1 r1 => ⟨G1, r, ρ, w1, l, w2, i, P.next x1 o1, e2, e4, fun H2 G2 x2 o2 => ⟨G2, r, ρ, w2, u, _, j, (P.next x1 o1).next x2 o2, e3, e5, fun H3 G3 x3 o3 => ?_⟩⟩⟩
  have X3 := (x1.trans x2).trans x3
  cases r1 with
  | @lst p vs ds g rs =>
    cases e6
    have rs3 := (rs.mono x2.g).mono x3.g
    refine .inl ⟨p, vs, rfl, .of (x3.s _ _ (x3.g _ _ (x2.g _ _ g))), fun p' hp => ?_⟩
    have g' := Grow.new (o := .lst (cutV vs i j)) x3.s hp
    exact q _ _ _ (X3.trans g'.ext) (o3.grow g') (rep_lst (Same.free x3.s hp) (cut_rep rs3 i j))
  | @tup p vs ds g rs =>
    cases e6
    have rs3 := (rs.mono x2.g).mono x3.g
    have gp := x3.g _ _ (x2.g _ _ g)
    refine .inr ⟨p, vs, rfl, .of (x3.s _ _ gp), fun hw => ?_, fun _ p' hp => ?_⟩
    · rw [rs3.length] at hw
      exact q _ H3 G3 X3 o3 (by rw [cut_whole hw]; exact .tup gp rs3)
    · have g' := Grow.new (o := .tup (cutV vs i j)) x3.s hp
      exact q _ _ _ (X3.trans g'.ext) (o3.grow g') (rep_tup (Same.free x3.s hp) (cut_rep rs3 i j))
  | _ => cases e6

/-! ### the draw list -/
end
end Lt

set_option Elab.async false
set_option linter.all false
set_option maxRecDepth 100000
set_option maxHeartbeats 4000000
/-! LtD: what is walked: lists, tuples, ranges, enumerate, zip. -/
namespace LtE1
open PySem
open PySem.AutoSeq1 (wpAny_loadPart')
theorem meets_enumerate_newT (l : Addr) (items : Array Value) (n : Nat) (dct : Option Addr) (sl : Array (Option Value)) :
    Meets (Builtin.«enumerate.__new__» ⟨[.type "enumerate", .ref l], []⟩) (fun _ R s => s.heap.get? l = some { cls := .type "tuple", dict := dct, data := .seq items n, slots := sl } ∧
      R (.ok (.ret (.ref (s.heap.push { cls := .type "tuple_iterator", data := .fields #[.ref l, .int 0 0] }).objs.size)))
        { s with heap := (s.heap.push { cls := .type "tuple_iterator", data := .fields #[.ref l, .int 0 0] }).push { cls := .type "enumerate", data := .fields #[.none, .bool false, .ref s.heap.objs.size, rawInt 0, .none, .none] } }) :=
  .of_wp fun prog w A R s h => by
    obtain ⟨hp, g, d, tk, os⟩ := s; obtain ⟨hl, h⟩ := h
    have hsub := sub_enumerate
    have hL : Heap.IsTuple (Shared.heap ⟨hp, g, d, tk, os⟩) l items := ⟨_, hl, rfl, n, rfl⟩
    wp_walk using wpAny_loadPart' hl
    refine wpAny_stack_any fun st => wpAny_pure ?_
    split
    · rename_i c _ _ _ _ _
      cases (c == Value.type "enumerate")
      · wp_walk using wpAny_loadPart' hl, wpAny_pyIter_tuple hL
        exact ⟨_, rfl, h⟩
      · wp_walk using wpAny_loadPart' hl, wpAny_pyIter_tuple hL
        exact ⟨_, rfl, h⟩
    · wp_walk using wpAny_loadPart' hl, wpAny_pyIter_tuple hL
      exact ⟨_, rfl, h⟩
section
variable {prog : Program} {w : World} {A : Around} {E : Value → Shared → Prop} {s : Shared}
theorem call_enumerate_tuple {l : Addr} {items : Array Value} {Q : Value → Shared → Prop} (hL : s.heap.IsTuple l items)
    (h : ∀ h', IsEnum h' (s.heap.objs.size + 1) s.heap.objs.size 0 .none → h'.IsTupleIter s.heap.objs.size l 0 → h'.objs.size = s.heap.objs.size + 2 →
      (∀ b o, s.heap.get? b = some o → h'.get? b = some o) → Q (.ref (s.heap.objs.size + 1)) { s with heap := h' }) :
    wpAny (model prog w) A (call (.type "enumerate") [.ref l]) Q E s := by
  obtain ⟨⟨c, dct, dt, sl⟩, hl, hc, n, hd⟩ := hL
  replace hc : c = .type "tuple" := hc
  replace hd : dt = .seq items n := hd
  subst hc hd
  refine callType_new F.called_enumerate (by decide) (F.typeCall_enumerate_1 _) (F.newCall_enumerate_1 _) (fun obj => F.args_object_init_2 obj _) F.entry_enumerate_new
    (meets_enumerate_newT l items n dct sl) ⟨hl, ?_⟩
  have hz : (s.heap.push { cls := .type "tuple_iterator", data := .fields #[.ref l, .int 0 0] }).objs.size = s.heap.objs.size + 1 := Heap.size_push ..
  show _ ∧ _
  rw [hz]
  have he : IsEnum ((s.heap.push { cls := .type "tuple_iterator", data := .fields #[.ref l, .int 0 0] }).push
      { cls := .type "enumerate", data := .fields #[.none, .bool false, .ref s.heap.objs.size, rawInt 0, .none, .none] }) (s.heap.objs.size + 1) s.heap.objs.size 0 .none := by
    have := Heap.get?_push_size (s.heap.push { cls := .type "tuple_iterator", data := .fields #[.ref l, .int 0 0] })
      (o := { cls := .type "enumerate", data := .fields #[.none, .bool false, .ref s.heap.objs.size, rawInt 0, .none, .none] }) rfl
    rw [hz] at this; exact this
  refine ⟨⟨_, he, rfl⟩, h _ he ⟨_, Heap.get?_push_of_some _ (Heap.get?_push_size _ rfl), rfl, rfl⟩ (by rw [Heap.size_push, hz]) fun b o x => Heap.get?_push_of_some _ (Heap.get?_push_of_some _ x)⟩
end
end LtE1
namespace Lt
open PySem PySem.Spec PyProof.Rows L2

/-! ### enumerate of a tuple -/
def IteT (K : PySem.W.Frag) (a : Addr) : L2.It :=
  ⟨fun i H => ∃ (xs : List V) (x : V), SqT K H a xs ∧ xs[i]? = some x, fun i H v H' => ∃ T x, v = .ref T ∧ H T = none ∧ H' = upd H T (.tup [.int (i : Nat), x]) ∧ ∀ xs, SqT K H a xs → xs[i]? = some x, fun i H => ∃ xs : List V, SqT K H a xs ∧ xs.length = i⟩
theorem turn_enumT {P : Program} {w : World} {K : PySem.W.Frag} {elts : List Expr} {kk : Nat} {tpos : Pos} (a e it : Addr) (hai : a ≠ it) (hae : e ≠ a) :
    Turn P w K (.Tuple elts kk tpos) (IteT K a) [e, it] e (fun i h => (∃ old, IsEnum h e it ((i : Nat) : Int) old) ∧ h.IsTupleIter it a i ∧ e ≠ it) where
  mem := by simp
  obj := fun i h st b hb => by
    obtain ⟨⟨old, he⟩, ⟨o, ho, hc, hd⟩, _⟩ := st
    have e' : b = e ∨ b = it := by simpa using hb
    rcases e' with z | z
    · rw [z]; exact ⟨_, he, fun v q => nomatch q⟩
    · rw [z]; exact ⟨o, ho, fun v q => by rw [hd] at q; cases q⟩
  keep := fun i h h' st k => let ⟨⟨old, he⟩, hi, hne⟩ := st; ⟨⟨old, k e (by simp) _ he⟩, hi.at fun o q => k it (by simp) o q, hne⟩
  item := by
    intro X hP hw hK hc i pins s σ H E I hf st hg
    subst hP hw hK
    obtain ⟨⟨old, he⟩, hit, hne⟩ := st
    obtain ⟨xs, x, hq, hx⟩ := hg
    obtain ⟨its, rv, p, hz⟩ := I.tuple hq
    obtain ⟨u, hu, ru⟩ := rv.get hx
    have hel : e < s.heap.objs.size := Heap.lt_size he
    have hil : it < s.heap.objs.size := by obtain ⟨_, q, _⟩ := hit; exact Heap.lt_size q
    have hlt : i < its.toArray.size := by
      rw [List.size_toArray]
      exact (List.getElem?_eq_some_iff.mp hu).1
    have D := Draws.tuple (prog := X.prog) (w := X.w) (A := X.A.in1) (I.ok.hd hc) it a hai its.toArray
    refine wpAny_pyNext_enum_itemD D he ⟨hit, p⟩ hlt hne (by simp [hne, hae]) fun y h' tk hy ho hst' hT hsz hk => ?_
    have hyu : y = u := by
      have : its[i]? = some y := by simpa using hy
      rw [hu] at this
      exact (Option.some.inj this).symm
    subst hyu
    refine ⟨_, rfl, wpAny_letOwnedTupleGo_enum (s := { s with heap := h', toks := tk + 1 }) ho fun h'' he' sb => ?_⟩
    have hT2 : h''.get? s.heap.objs.size = some { cls := .type "tuple", data := .seq #[.int i tk, y] } := (sb.2 _ (Nat.ne_of_gt hel)).trans hT
    have new : ObjOk X.prog X.w (upd H s.heap.objs.size (.tup [.int (i : Nat), x])) h'' s.heap.objs.size (.tup [.int (i : Nat), x]) :=
      ⟨by show 2 ≤ sizeLine; decide, [.int i tk, y], .cons ⟨_, rfl⟩ (.cons ru .nil), ⟨_, hT2, rfl, _, rfl⟩⟩
    have I1 : Inv X pins σ (upd H s.heap.objs.size (.tup [.int (i : Nat), x])) { s with heap := h'', toks := tk + 1 } :=
      I.turnedNew (ch := [e, it]) (fun b ob hb q => (sb.2 b (fun z => hb (by simp [z]))).trans (hk b ob (fun z => hb (by simp [z])) (fun z => hb (by simp [z])) q)) hf (Nat.le_refl _) new
    refine ⟨.ref s.heap.objs.size, _, I1, rfl, ⟨_, x, rfl, I.hok.fresh (Nat.le_refl _), rfl, fun ys hy => by rw [I.tuple_inj hy hq]; exact hx⟩, ⟨⟨y, ?_⟩, hst'.1.at fun o q => (sb.2 it (Ne.symm hne)).trans q, hne⟩, fun b hb => ?_⟩
    · have e1 : ((i + 1 : Nat) : Int) = (i : Int) + 1 := by omega
      rw [e1]; exact he'
    · have hb' : b < s.heap.objs.size := by
        have e' : b = e ∨ b = it := by simpa using hb
        rcases e' with z | z
        · rw [z]; exact hel
        · rw [z]; exact hil
      rw [upd_ne (Nat.ne_of_lt hb')]
      exact (hf b hb).1
  done := by
    intro X hP hw hK hc i pins s σ H E I hf st hg
    subst hP hw hK
    obtain ⟨⟨old, he⟩, hit, hne⟩ := st
    obtain ⟨xs, hq, hx⟩ := hg
    obtain ⟨its, rv, p, hz⟩ := I.tuple hq
    obtain ⟨f0, f1, f2, f3, f4, f5⟩ := hf it (by simp)
    have hl := rv.length
    have hi : i = its.toArray.size := by rw [List.size_toArray, ← hl]; exact hx.symm
    have D := Draws.tuple (prog := X.prog) (w := X.w) (A := X.A.in1) (I.ok.hd hc) it a hai its.toArray
    exact wpAny_pyNext_enum_endD D he ⟨by rw [← hi]; exact hit, p⟩ fun h' eb => ⟨rfl, I.turned (t' := s.toks) (fun b o hb q => eb b o hb q) f0 f1 f3 f4 f5⟩
  self := fun A i s Q E st h => let ⟨⟨_, he⟩, _⟩ := st; wpAny_pyIter_enum he h
theorem walk_enumT {K : PySem.W.Frag} {a : Addr} {xs : List V} : Walk (IteT K a) xs.length (fun H => SqT K H a xs) (YPair (fun i => some (.int (i : Nat))) (fun i => xs[i]?)) := by
  refine ⟨fun i _ hi q => ⟨xs, xs[i], q, by simp [hi]⟩, fun _ q => ⟨xs, q, rfl⟩, fun i H v H' _ q y => ?_⟩
  obtain ⟨T, x, h1, h2, h3, h4⟩ := y
  exact ⟨T, .int (i : Nat), x, h1, h2, h3, rfl, h4 xs q⟩
section
variable {X : Cx} {F : Orc} {ir : Option Nat} {tg : Expr}
def iEnumA (K : PySem.W.Frag) (ta : TA) : TI := fun σ H R => ta σ H fun vs H1 => ∃ a xs, vs = [.ref a] ∧ ((SqL K H1 a xs ∧ R (Ite K a) H1) ∨ (SqT K H1 a xs ∧ R (IteT K a) H1))
theorem pi_enumA {e : Expr} {ta : TA} {p pos tpos : Pos} {elts : List Expr} {kk : Nat} (hg : Gl X "enumerate") (hm : X.mg "enumerate" = none) (ha : PA X [e] ta) (hs : starEach [e] X.env = [(false, eval e X.env)]) :
    PI X (.Tuple elts kk tpos) (.Call (.Name "enumerate" p) [e] [] pos) (iEnumA X.K ta) := by
  refine ⟨fun pins s σ H R I h => ?_⟩
  refine Call_ (ld_blt I hg hm boot_enumerate (PyProof.Rows.callWith_type1 (thn (ha.run pos pins s σ H _ I h) fun us s1 ⟨vs, H1, I1, r1, q1⟩ => ?_) hs rfl))
  obtain ⟨a, xs, ex, hq⟩ := q1
  subst ex
  cases r1 with
  | cons r rr =>
    cases rr
    cases r
    rcases hq with ⟨hq, q⟩ | ⟨hq, q⟩
    · obtain ⟨its, rv, p', hz⟩ := I1.list hq
      refine call_enumerate_list p'.isList fun h' he hit hsz hk => wpAny_pyIter_enum he ?_
      have I2 : Inv X pins σ H1 { s1 with heap := h' } := I1.kept (t' := s1.toks) hk
      refine ⟨s1.heap.objs.size + 1, [s1.heap.objs.size + 1, s1.heap.objs.size], _, _, H1, rfl, I2, turn_enum a (s1.heap.objs.size + 1) s1.heap.objs.size, ⟨⟨.none, he⟩, hit, Nat.succ_ne_self _⟩, fun b hb => ?_, q⟩
      have e' : b = s1.heap.objs.size + 1 ∨ b = s1.heap.objs.size := by simpa using hb
      have hle : s1.heap.objs.size ≤ b := by
        rcases e' with z | z
        · rw [z]; exact Nat.le_add_right _ _
        · rw [z]; exact Nat.le_refl _
      exact I1.fpOk hle (I1.hok.fresh hle)
    · obtain ⟨its, rv, p', hz⟩ := I1.tuple hq
      have hal : a < s1.heap.objs.size := p'.lt
      refine LtE1.call_enumerate_tuple p' fun h' he hit hsz hk => wpAny_pyIter_enum he ?_
      have I2 : Inv X pins σ H1 { s1 with heap := h' } := I1.kept (t' := s1.toks) hk
      refine ⟨s1.heap.objs.size + 1, [s1.heap.objs.size + 1, s1.heap.objs.size], _, _, H1, rfl, I2, turn_enumT a (s1.heap.objs.size + 1) s1.heap.objs.size (Nat.ne_of_lt hal) (Nat.ne_of_gt (Nat.lt_succ_of_lt hal)), ⟨⟨.none, he⟩, hit, Nat.succ_ne_self _⟩, fun b hb => ?_, q⟩
      have e' : b = s1.heap.objs.size + 1 ∨ b = s1.heap.objs.size := by simpa using hb
      have hle : s1.heap.objs.size ≤ b := by
        rcases e' with z | z
        · rw [z]; exact Nat.le_add_right _ _
        · rw [z]; exact Nat.le_refl _
      exact I1.fpOk hle (I1.hok.fresh hle)
/-- a list or a tuple -/
theorem pi_seq {l : Expr} {tl : TE} (hl : PE X l tl) : PI X tg l (fun σ H R => tl σ H fun x H1 => ∃ a, x = .ref a ∧ (((∃ xs, SqL X.K H1 a xs) ∧ R (Itl X.K a) H1) ∨ ((∃ xs, SqT X.K H1 a xs) ∧ R (Itt X.K a) H1))) := by
  refine ⟨fun pins s σ H R I h => ?_⟩
  refine thn (hl.run pins s σ H _ I h) fun v s1 ⟨x, H1, I1, r1, q1⟩ => ?_
  obtain ⟨a, e, q⟩ := q1
  subst e
  cases r1
  rcases q with ⟨⟨xs, hq⟩, q⟩ | ⟨⟨xs, hq⟩, q⟩
  · obtain ⟨its, rv, p, hz⟩ := I1.list hq
    refine wpAny_pyIter_list p.isList ?_
    refine ⟨s1.heap.objs.size, [s1.heap.objs.size], _, _, H1, rfl, I1.kept (t' := s1.toks) fun b o e => Heap.get?_push_of_some _ e, turn_list a _, ⟨_, Heap.get?_push_size _ rfl, rfl, rfl⟩, fun b hb => ?_, q⟩
    have e : b = s1.heap.objs.size := by simpa using hb
    subst e
    exact I1.fpOk (Nat.le_refl _) (I1.hok.fresh (Nat.le_refl _))
  · obtain ⟨its, rv, p, hz⟩ := I1.tuple hq
    refine wpAny_pyIter_tuple (show s1.heap.IsTuple a its.toArray from p) ?_
    refine ⟨s1.heap.objs.size, [s1.heap.objs.size], _, _, H1, rfl, I1.kept (t' := s1.toks) fun b o e => Heap.get?_push_of_some _ e, turn_tuple a _, ⟨_, Heap.get?_push_size _ rfl, rfl, rfl⟩, fun b hb => ?_, q⟩
    have e : b = s1.heap.objs.size := by simpa using hb
    subst e
    exact I1.fpOk (Nat.le_refl _) (I1.hok.fresh (Nat.le_refl _))

/-! ### readings -/
/-- what comes at turn i: the i-th thing, as it is or in a new tuple -/
def YD (G : Hp) (its : List D) : Nat → Hp → V → Hp → Prop := fun i H x H' => ∃ d, its[i]? = some d ∧
  ((H' = H ∧ Rep G x d) ∨ ∃ T vs ds, x = .ref T ∧ H T = none ∧ H' = upd H T (.tup vs) ∧ d = .tup ds ∧ Reps G vs ds)
theorem YD.use {G G2 H H' : Hp} {its : List D} {i : Nat} {x : V} (y : YD G its i H x H') (g : Same G G2) (s : Same G2 H) : ∃ d G3, its[i]? = some d ∧ Grow H G2 H' G3 ∧ Rep G3 x d := by
  obtain ⟨d, hd, h⟩ := y
  rcases h with ⟨rfl, r⟩ | ⟨T, vs, ds, rfl, hT, rfl, rfl, r⟩
  · exact ⟨d, G2, hd, .refl s, r.mono g⟩
  · exact ⟨_, _, hd, .new s hT, rep_tup (Same.free s hT) (r.mono g)⟩
def isRng : IK → Bool
  | .range => true
  | .down => true
  | _ => false
def RI (F : Orc) (K : PySem.W.Frag) (ir : Option Nat) (ik : IK) (ms : List E) : TI := fun σ H R => ∃ G r ρ w ds w' its, Pre K ir σ H G r ρ w ∧ evs F ms ρ w = some (ds, w') ∧ itemsD ik ds = some its ∧
  ∀ J H' G' Gw, Ext r H G H' G' → RowOk K r H' G' w' → Same Gw G' → (isRng ik = true → Gw = fun _ => none) → Walk J its.length (fun H2 => Same Gw H2) (YD Gw its) → R J H'
theorem PI.imp {X : Cx} {tg e : Expr} {t t' : TI} (h : PI X tg e t) (f : ∀ σ H R, t' σ H R → t σ H R) : PI X tg e t' := ⟨fun pins s σ H R I q => h.run pins s σ H R I (f σ H R q)⟩
theorem walk_reps {G : Hp} {a : Addr} {vs : List V} {ds : List D} (g : G a = some (.lst vs)) (r : Reps G vs ds) {K : PySem.W.Frag} : Walk (Itl K a) ds.length (fun H2 => Same G H2) (YD G ds) := by
  rw [← r.length]
  refine (walk_list (xs := vs)).mono (fun H h => .of (h _ _ g)) fun i H x H' hi h y => ?_
  obtain ⟨rfl, hx⟩ := y
  obtain ⟨d, h1, h2⟩ := r.getV hx
  exact ⟨d, h1, .inl ⟨rfl, h2⟩⟩
theorem walk_repsT {G : Hp} {a : Addr} {vs : List V} {ds : List D} (g : G a = some (.tup vs)) (r : Reps G vs ds) {K : PySem.W.Frag} : Walk (Itt K a) ds.length (fun H2 => Same G H2) (YD G ds) := by
  rw [← r.length]
  refine (walk_tup (xs := vs)).mono (fun H h => .of (h _ _ g)) fun i H x H' hi h y => ?_
  obtain ⟨rfl, hx⟩ := y
  obtain ⟨d, h1, h2⟩ := r.getV hx
  exact ⟨d, h1, .inl ⟨rfl, h2⟩⟩
theorem i_plain {e : Expr} {m : E} (h : PE X e (RE F X.K ir m)) : PI X tg e (RI F X.K ir .plain [m]) := by
  refine PI.imp (pi_seq h) fun σ H R q => ?_
  obtain ⟨G, r, ρ, w, ds, w', its, P, e, e2, q⟩ := q
  simp only [evs, Option.bind_eq_some_iff, Option.map_eq_some_iff] at e
  obtain ⟨⟨x, w1⟩, e1, y, e3, e4⟩ := e
  cases e3
  cases e4
  refine ⟨G, r, ρ, w, x, _, P, e1, fun v1 H1 G1 x1 o1 r1 => ?_⟩
  cases r1 with
  | @lst a vs ds g rs => cases e2; exact ⟨a, rfl, .inl ⟨⟨vs, .of (x1.s _ _ g)⟩, q _ H1 G1 G1 x1 o1 (.refl _) (fun z => nomatch z) (walk_reps g rs)⟩⟩
  | @tup a vs ds g rs => cases e2; exact ⟨a, rfl, .inr ⟨⟨vs, .of (x1.s _ _ g)⟩, q _ H1 G1 G1 x1 o1 (.refl _) (fun z => nomatch z) (walk_repsT g rs)⟩⟩
  | _ => cases e2
theorem walk_rng {G : Hp} {lo : Int} {n : Nat} : Walk (Itr lo n) ((List.range n).map fun (k : Nat) => D.int (lo + (k : Int))).length (fun H2 => Same G H2) (YD G ((List.range n).map fun (k : Nat) => D.int (lo + (k : Int)))) := by
  rw [List.length_map, List.length_range]
  refine walk_range.mono (fun _ _ => trivial) fun i H x H' hi h y => ?_
  obtain ⟨rfl, rfl⟩ := y
  exact ⟨.int (lo + i), by simp [hi], .inl ⟨rfl, .int _⟩⟩
variable {p pos : Pos}
theorem i_range1 {a : Expr} {m : E} (hg : Gl X "range") (hm : X.mg "range" = none) (ha : PA X [a] (RS F X.K ir [m])) (hs : notStar a = true) : PI X tg (.Call (.Name "range" p) [a] [] pos) (RI F X.K ir .range [m]) := by
  refine PI.imp (pi_range1 hg hm ha (star_of hs [] X.env)) fun σ H R q => ?_
  obtain ⟨G, r, ρ, w, ds, w', its, P, e, e2, q⟩ := q
  refine ⟨G, r, ρ, w, ds, w', P, e, fun vs H1 G1 x1 o1 r1 => ?_⟩
  cases r1 with
  | nil => cases e2
  | cons r1 rr => cases rr with
    | nil => cases r1 with
      | int n =>
        simp only [itemsD] at e2
        split at e2
        · rename_i c
          rw [Bool.and_eq_true, decide_eq_true_eq, decide_eq_true_eq] at c
          cases e2
          exact ⟨n, rfl, c.1, c.2, q _ H1 G1 (fun _ => none) x1 o1 (fun _ _ e => nomatch e) (fun _ => rfl) walk_rng⟩
        · cases e2
      | _ => cases e2
    | cons r2 rr =>
      exfalso
      simp only [evs, Option.bind_eq_some_iff, Option.map_eq_some_iff] at e
      obtain ⟨x, e1, y, e3, e4⟩ := e
      cases e3
      cases e4
theorem i_range2 {a b : Expr} {m n : E} (hg : Gl X "range") (hm : X.mg "range" = none) (ha : PA X [a, b] (RS F X.K ir [m, n])) (hs : notStar a = true) (hs2 : notStar b = true) : PI X tg (.Call (.Name "range" p) [a, b] [] pos) (RI F X.K ir .range [m, n]) := by
  refine PI.imp (pi_range2 hg hm ha (by rw [star_of hs, star_of hs2]; rfl) (star_of hs2 [] X.env)) fun σ H R q => ?_
  obtain ⟨G, r, ρ, w, ds, w', its, P, e, e2, q⟩ := q
  refine ⟨G, r, ρ, w, ds, w', P, e, fun vs H1 G1 x1 o1 r1 => ?_⟩
  have hl : ds.length = 2 := by
    simp only [evs, Option.bind_eq_some_iff, Option.map_eq_some_iff] at e
    obtain ⟨x, e1, y, ⟨z, e3, u, e4, e5⟩, e6⟩ := e
    cases e4
    cases e6
    rw [← e5]
    rfl
  match ds, hl, r1 with
  | [d1, d2], _, .cons (v := v1) ra (.cons (v := v2) rb .nil) =>
    cases ra with
    | int i => cases rb with
      | int j =>
        simp only [itemsD] at e2
        split at e2
        · rename_i c
          simp only [Bool.and_eq_true, decide_eq_true_eq] at c
          cases e2
          exact ⟨i, j, rfl, ⟨c.1.1.1, c.1.1.2, c.1.2, c.2⟩, q _ H1 G1 (fun _ => none) x1 o1 (fun _ _ e => nomatch e) (fun _ => rfl) walk_rng⟩
        · cases e2
      | _ => cases e2
    | _ => cases e2
theorem walk_down {G : Hp} {lo : Int} {n : Nat} : Walk (Itc lo (-1) n) ((List.range n).map fun (k : Nat) => D.int (lo + (k : Int) * (-1))).length (fun H2 => Same G H2) (YD G ((List.range n).map fun (k : Nat) => D.int (lo + (k : Int) * (-1)))) := by
  rw [List.length_map, List.length_range]
  refine walk_rangeC.mono (fun _ _ => trivial) fun i H x H' hi h y => ?_
  obtain ⟨rfl, rfl⟩ := y
  exact ⟨.int (lo + (i : Nat) * (-1)), by simp [hi], .inl ⟨rfl, .int _⟩⟩
theorem i_down {a b c : Expr} {m n o : E} (hg : Gl X "range") (hm : X.mg "range" = none) (ha : PA X [a, b, c] (RS F X.K ir [m, n, o])) (hs : notStar a = true) (hs2 : notStar b = true) (hs3 : notStar c = true) : PI X tg (.Call (.Name "range" p) [a, b, c] [] pos) (RI F X.K ir .down [m, n, o]) := by
  refine PI.imp (pi_range3 hg hm ha (star_of hs [b, c] X.env) (by rw [star_of hs2, star_of hs3]; rfl)) fun σ H R q => ?_
  obtain ⟨G, r, ρ, w, ds, w', its, P, e, e2, q⟩ := q
  refine ⟨G, r, ρ, w, ds, w', P, e, fun vs H1 G1 x1 o1 r1 => ?_⟩
  have hl : ds.length = 3 := by
    simp only [evs, Option.bind_eq_some_iff, Option.map_eq_some_iff] at e
    obtain ⟨x, e1, y, ⟨z, e3, u, ⟨t, e4, s, e5, e6⟩, e7⟩, e8⟩ := e
    cases e5
    cases e8
    rw [← e7, ← e6]
    rfl
  match ds, hl, r1 with
  | [d1, d2, d3], _, .cons (v := v1) ra (.cons (v := v2) rb (.cons (v := v3) rc .nil)) =>
    cases ra with
    | int i => cases rb with
      | int j => cases rc with
        | int k =>
          simp only [itemsD] at e2
          split at e2
          · rename_i c
            simp only [Bool.and_eq_true, decide_eq_true_eq] at c
            obtain ⟨⟨⟨⟨rfl, c1⟩, c2⟩, c3⟩, c4⟩ := c
            cases e2
            exact ⟨i, j, -1, _, rfl, RgC.neg c1 c2 c3 c4, q _ H1 G1 (fun _ => none) x1 o1 (fun _ _ e => nomatch e) (fun _ => rfl) walk_down⟩
          · cases e2
        | _ => cases e2
      | _ => cases e2
    | _ => cases e2
theorem enumD_get : ∀ (ds : List D) (k i : Nat) (d : D), ds[i]? = some d → (enumD k ds)[i]? = some (.tup [.int ((k + i : Nat) : Int), d])
  | [], _, _, _, h => by simp at h
  | x :: r, k, 0, d, h => by simp at h; subst h; rfl
  | x :: r, k, i + 1, d, h => by
    have := enumD_get r (k + 1) i d (by simpa using h)
    rw [show k + 1 + i = k + (i + 1) by omega] at this
    simpa [enumD] using this
theorem enumD_len : ∀ (ds : List D) (k : Nat), (enumD k ds).length = ds.length
  | [], _ => rfl
  | x :: r, k => by simp [enumD, enumD_len r]
theorem walk_en {G : Hp} {J : L2.It} {Gd : Hp → Prop} {vs : List V} {ds : List D} (wk : Walk J vs.length Gd (YPair (fun i => some (.int (i : Nat))) (fun i => vs[i]?))) (hG : ∀ H2, Same G H2 → Gd H2) (r : Reps G vs ds) :
    Walk J (enumD 0 ds).length (fun H2 => Same G H2) (YD G (enumD 0 ds)) := by
  rw [enumD_len, ← r.length]
  refine wk.mono hG fun i H x H' hi h y => ?_
  obtain ⟨T, a, b, rfl, hT, rfl, ha, hb⟩ := y
  cases ha
  obtain ⟨d, h1, h2⟩ := r.getV hb
  refine ⟨_, enumD_get ds 0 i d h1, .inr ⟨T, _, _, rfl, hT, rfl, rfl, ?_⟩⟩
  rw [Nat.zero_add]
  exact .cons (.int _) (.cons h2 .nil)
theorem i_enum {a : Expr} {m : E} {elts : List Expr} {kk : Nat} {tpos : Pos} (hg : Gl X "enumerate") (hm : X.mg "enumerate" = none) (ha : PA X [a] (RS F X.K ir [m])) (hs : notStar a = true) : PI X (.Tuple elts kk tpos) (.Call (.Name "enumerate" p) [a] [] pos) (RI F X.K ir .enum [m]) := by
  refine PI.imp (pi_enumA hg hm ha (star_of hs [] X.env)) fun σ H R q => ?_
  obtain ⟨G, r, ρ, w, ds, w', its, P, e, e2, q⟩ := q
  refine ⟨G, r, ρ, w, ds, w', P, e, fun vs H1 G1 x1 o1 r1 => ?_⟩
  have hl : ds.length = 1 := by
    simp only [evs, Option.bind_eq_some_iff, Option.map_eq_some_iff] at e
    obtain ⟨x, e1, y, e3, e4⟩ := e
    cases e3
    cases e4
    rfl
  match ds, hl, r1 with
  | [d1], _, .cons (v := v1) ra .nil =>
    cases ra with
    | @lst a vs ds g rs => cases e2; exact ⟨a, vs, rfl, .inl ⟨.of (x1.s _ _ g), q _ H1 G1 G1 x1 o1 (.refl _) (fun z => nomatch z) (walk_en walk_enum (fun H2 h => .of (h _ _ g)) rs)⟩⟩
    | @tup a vs ds g rs => cases e2; exact ⟨a, vs, rfl, .inr ⟨.of (x1.s _ _ g), q _ H1 G1 G1 x1 o1 (.refl _) (fun z => nomatch z) (walk_en walk_enumT (fun H2 h => .of (h _ _ g)) rs)⟩⟩
    | _ => cases e2
theorem zipD_get {xs ys : List D} {i : Nat} {a b : D} (h1 : xs[i]? = some a) (h2 : ys[i]? = some b) : (List.zipWith (fun a b => D.tup [a, b]) xs ys)[i]? = some (.tup [a, b]) := by
  rw [List.getElem?_zipWith, h1, h2]
theorem walk_zi {G : Hp} {J : L2.It} {Gd : Hp → Prop} {vs us : List V} {ds es : List D} (wk : Walk J (min vs.length us.length) Gd (YPair (fun i => vs[i]?) (fun i => us[i]?))) (hG : ∀ H2, Same G H2 → Gd H2) (r : Reps G vs ds) (r2 : Reps G us es) :
    Walk J (List.zipWith (fun a b => D.tup [a, b]) ds es).length (fun H2 => Same G H2) (YD G (List.zipWith (fun a b => D.tup [a, b]) ds es)) := by
  rw [List.length_zipWith, ← r.length, ← r2.length]
  refine wk.mono hG fun i H x H' hi h y => ?_
  obtain ⟨T, a, b, rfl, hT, rfl, ha, hb⟩ := y
  obtain ⟨d, h1, h2⟩ := r.getV ha
  obtain ⟨e, h3, h4⟩ := r2.getV hb
  exact ⟨_, zipD_get h1 h3, .inr ⟨T, _, _, rfl, hT, rfl, rfl, .cons h2 (.cons h4 .nil)⟩⟩
theorem walk_zipT {K : PySem.W.Frag} {a b : Addr} {xs ys : List V} {n : Nat} (hn : n = min xs.length ys.length) : Walk (RZ.ItzT K a b) n (fun H => SqT K H a xs ∧ SqT K H b ys) (YPair (fun i => xs[i]?) (fun i => ys[i]?)) := by
  refine ⟨fun i H hi q => ?_, fun H q => ?_, fun i H x H' hi q y => ?_⟩
  · have h1 : i < xs.length := by omega
    have h2 : i < ys.length := by omega
    exact ⟨xs, ys, xs[i], ys[i], q.1, q.2, List.getElem?_eq_getElem h1, List.getElem?_eq_getElem h2⟩
  · exact ⟨xs, ys, q.1, q.2, by omega⟩
  · obtain ⟨T, u, v, rfl, hT, rfl, h1, h2⟩ := y
    exact ⟨T, u, v, rfl, hT, rfl, h1 xs q.1, h2 ys q.2⟩
theorem i_zip {a b : Expr} {m n : E} {elts : List Expr} {kk : Nat} {tpos : Pos} (hg : Gl X "zip") (hm : X.mg "zip" = none) (ha : PA X [a, b] (RS F X.K ir [m, n])) (hs : notStar a = true) (hs2 : notStar b = true) : PI X (.Tuple elts kk tpos) (.Call (.Name "zip" p) [a, b] [] pos) (RI F X.K ir .zip [m, n]) := by
  refine PI.imp (RZ.pi_zipA hg hm ha (star_of hs [b] X.env) (by rw [star_of hs2]; rfl)) fun σ H R q => ?_
  obtain ⟨G, r, ρ, w, ds, w', its, P, e, e2, q⟩ := q
  refine ⟨G, r, ρ, w, ds, w', P, e, fun vs H1 G1 x1 o1 r1 => ?_⟩
  have hl : ds.length = 2 := by
    simp only [evs, Option.bind_eq_some_iff, Option.map_eq_some_iff] at e
    obtain ⟨x, e1, y, ⟨z, e3, u, e4, e5⟩, e6⟩ := e
    cases e4
    cases e6
    rw [← e5]
    rfl
  match ds, hl, r1 with
  | [d1, d2], _, .cons (v := v1) ra (.cons (v := v2) rb .nil) =>
    cases ra with
    | @lst a vs ds g rs => cases rb with
      | @lst b us es g2 rs2 => cases e2; exact ⟨a, b, vs, us, rfl, .inl ⟨.of (x1.s _ _ g), .of (x1.s _ _ g2), q _ H1 G1 G1 x1 o1 (.refl _) (fun z => nomatch z) (walk_zi (walk_zip rfl) (fun H2 h => ⟨.of (h _ _ g), .of (h _ _ g2)⟩) rs rs2)⟩⟩
      | _ => cases e2
    | @tup a vs ds g rs => cases rb with
      | @tup b us es g2 rs2 => cases e2; exact ⟨a, b, vs, us, rfl, .inr ⟨.of (x1.s _ _ g), .of (x1.s _ _ g2), q _ H1 G1 G1 x1 o1 (.refl _) (fun z => nomatch z) (walk_zi (walk_zipT rfl) (fun H2 h => ⟨.of (h _ _ g), .of (h _ _ g2)⟩) rs rs2)⟩⟩
      | _ => cases e2
    | _ => cases e2
end
end Lt

set_option Elab.async false
set_option linter.all false
set_option maxRecDepth 100000
set_option maxHeartbeats 400000
/-! LtDa: zip of two tuples with one name as target: the pair that was handed out may still stand, or not. -/
namespace LtZ2
open PySem RZ
open PySem.Sem (wp)
abbrev IsZipF (h : Heap) (z TI TO : Addr) (f0 f1 : Value) : Prop :=
  h.get? z = some { cls := .type "zip", dict := none, data := .fields #[f0, f1, .bool false, .ref TI, .ref TO], slots := #[] }
/-- what was handed out: nothing, or a pair at some address -/
def Owned (v : Value) : Prop := v = .none ∨ ∃ a : Nat, v = rawInt a
section
variable {prog : Program} {w : World} {A : Around} {E : Value → Shared → Prop} {s : Shared}
theorem wpAny_alive {a : Addr} {Q : Option Obj → Shared → Prop} (h : Q (s.heap.get? a) s) : wpAny (model prog w) A (loadIfAlive a) Q E s := fun _ _ _ => h
/-- is the kept pair free: both answers -/
theorem wpAny_free {z TI TO : Addr} {f0 f1 : Value} {Q : Bool → Shared → Prop} (hz : IsZipF s.heap z TI TO f0 f1) (ho : Owned f0) (h1 : Q true s)
    (h2 : ∀ h' f1', IsZipF h' z TI TO f0 f1' → Heap.SameBut z s.heap h' → Q false { s with heap := h' }) : wpAny (model prog w) A (Builtin.SmallTypes.ownedTupleIsFree (.ref z)) Q E s := by
  unfold Builtin.SmallTypes.ownedTupleIsFree
  refine wpAny_bind (wpAny_field hz rfl (x := f0) rfl ?_)
  rcases ho with rfl | ⟨a, rfl⟩
  · exact wpAny_pure h1
  · show wpAny _ _ (loadIfAlive a >>= _) _ _ _
    refine wpAny_bind (wpAny_alive ?_)
    cases q : s.heap.get? a with
    | none => exact wpAny_pure h1
    | some o =>
      show wpAny _ _ (field (.ref z) 1 >>= _) _ _ _
      refine wpAny_bind (wpAny_field hz rfl (x := f1) rfl ?_)
      by_cases c : (f1 != Value.bool true) = true
      · rw [if_pos c]
        refine wpAny_bind (wpAny_setField_rec hz (by simp) fun h' hz' hs' => ?_)
        exact wpAny_pure (h2 h' _ hz' hs')
      · rw [if_neg c]
        exact wpAny_pure (h2 s.heap f1 hz ⟨rfl, fun _ _ => rfl⟩)
theorem zipN_next_item {z TI TO i1 i2 l1 l2 : Addr} {k1 k2 : Nat} {xs ys : Array Value} {x y a b f0 f1 : Value} {Q : Value → Shared → Prop} (D : ZipApart z TI TO i1 i2 l1 l2) (ho : Owned f0)
    (hz : IsZipF s.heap z TI TO f0 f1) (hTI : IsPair s.heap TI (.ref i1) (.ref i2)) (hTO : IsPair s.heap TO a b)
    (h1 : s.heap.IsTupleIter i1 l1 k1) (h2 : s.heap.IsTupleIter i2 l2 k2) (hl1 : s.heap.IsTuple l1 xs) (hl2 : s.heap.IsTuple l2 ys) (hx : xs[k1]? = some x) (hy : ys[k2]? = some y)
    (hQ : ∀ h' f0' f1' a' b', Owned f0' → IsZipF h' z TI TO f0' f1' → IsPair h' TO a' b' → h'.IsTupleIter i1 l1 (k1 + 1) → h'.IsTupleIter i2 l2 (k2 + 1) → IsPair h' s.heap.objs.size x y → h'.objs.size = s.heap.objs.size + 1 →
      (∀ c o, c ≠ z → c ≠ TO → c ≠ i1 → c ≠ i2 → s.heap.get? c = some o → h'.get? c = some o) → Q (.ref s.heap.objs.size) { s with heap := h' }) :
    wpAny (model prog w) A (Builtin.«zip.__next__» ⟨[.ref z], []⟩) (fun fin s' => ∃ v, fin = .done (.ret v) ∧ Q v s') E s := by
  show wpAny _ _ (field (.ref z) 2 >>= _) _ _ _
  refine wpAny_bind (wpAny_field hz rfl (x := .bool false) rfl ?_)
  show wpAny _ _ (field (.ref z) 3 >>= _) _ _ _
  refine wpAny_bind (wpAny_field hz rfl (x := .ref TI) rfl ?_)
  refine wpAny_bind (wpAny_seqItems hTI rfl ?_)
  show wpAny _ _ (Builtin.SmallTypes.ownedTupleIsFree (.ref z) >>= _) _ _ _
  refine wpAny_bind (wpAny_free hz ho ?_ fun h₁ f1' hz₁ hs₁ => ?_)
  · simp only [if_true]
    refine wpAny_bind (wpAny_rule ?_)
    refine wpAny_bind (wpAny_field hz rfl (x := .ref TO) rfl ?_)
    refine wpAny_bind (wpAny_setField_rec hz (by simp) fun h₁ hz₁ hs₁ => ?_)
    replace hz₁ : IsZipF h₁ z TI TO .ellipsis f1 := hz₁
    refine wpAny_bind ?_
    simp only [List.zipIdx_cons, List.zipIdx_nil, List.forIn_cons, List.forIn_nil]
    refine wpAny_bind (wpAny_bind (wpAny_onRaise ?_))
    show wpAny _ _ (Builtin.SmallTypes.nextOf (.ref i1) >>= _) _ _ _
    refine wpAny_bind (nextOf_tuple_item (h1.extBut hs₁.extBut D.i1z) (hl1.extBut hs₁.extBut D.l1z) hx fun h₂ h1₂ hs₂ => wpAny_pure ?_)
    have hTO₂ : IsPair h₂ TO a b := hs₂.extBut _ _ D.TOi1 (hs₁.extBut _ _ D.TOz hTO)
    refine wpAny_bind (wpAny_seqItems hTO₂ rfl ?_)
    refine wpAny_bind (wpAny_updateSeq_pair hTO₂ fun h₃ hTO₃ hs₃ => ?_)
    replace hTO₃ : IsPair h₃ TO x b := hTO₃
    refine wpAny_bind (wpAny_letGo (wpAny_pure ?_))
    refine wpAny_bind (wpAny_bind (wpAny_onRaise ?_))
    show wpAny _ _ (Builtin.SmallTypes.nextOf (.ref i2) >>= _) _ _ _
    refine wpAny_bind (nextOf_tuple_item (((h2.extBut hs₁.extBut D.i2z).extBut hs₂.extBut D.i12.symm).extBut hs₃.extBut D.TOi2.symm)
      (((hl2.extBut hs₁.extBut D.l2z).extBut hs₂.extBut D.l2i1).extBut hs₃.extBut D.l2TO) hy fun h₄ h2₄ hs₄ => wpAny_pure ?_)
    have hTO₄ : IsPair h₄ TO x b := hs₄.extBut _ _ D.TOi2 hTO₃
    refine wpAny_bind (wpAny_seqItems hTO₄ rfl ?_)
    refine wpAny_bind (wpAny_updateSeq_pair hTO₄ fun h₅ hTO₅ hs₅ => ?_)
    replace hTO₅ : IsPair h₅ TO x y := hTO₅
    refine wpAny_bind (wpAny_letGo (wpAny_pure (wpAny_pure ?_)))
    refine wpAny_bind (wpAny_seqItems hTO₅ rfl ?_)
    refine wpAny_bind (wpAny_newTuple ?_)
    have hsz : h₅.objs.size = s.heap.objs.size := by rw [hs₅.1, hs₄.1, hs₃.1, hs₂.1, hs₁.1]
    have hz₅ : IsZipF h₅ z TI TO .ellipsis f1 := hs₅.extBut _ _ D.TOz.symm (hs₄.extBut _ _ D.i2z.symm (hs₃.extBut _ _ D.TOz.symm (hs₂.extBut _ _ D.i1z.symm hz₁)))
    have hk₅ : ∀ c o, c ≠ z → c ≠ TO → c ≠ i1 → c ≠ i2 → s.heap.get? c = some o → h₅.get? c = some o := fun c o c1 c2 c3 c4 e =>
      hs₅.extBut _ _ c2 (hs₄.extBut _ _ c4 (hs₃.extBut _ _ c2 (hs₂.extBut _ _ c3 (hs₁.extBut _ _ c1 e))))
    have h1₅ : h₅.IsTupleIter i1 l1 (k1 + 1) := ((h1₂.extBut hs₃.extBut D.TOi1.symm).extBut hs₄.extBut D.i12).extBut hs₅.extBut D.TOi1.symm
    have h2₅ : h₅.IsTupleIter i2 l2 (k2 + 1) := h2₄.extBut hs₅.extBut D.TOi2.symm
    have hzlt : z < h₅.objs.size := Heap.lt_size hz₅
    show wpAny _ _ (Builtin.SmallTypes.ownedTupleHandOut (.ref z) (.ref h₅.objs.size) >>= _) _ _ _
    refine wpAny_bind ?_
    unfold Builtin.SmallTypes.ownedTupleHandOut
    have hz₆ : IsZipF (h₅.push { cls := .type "tuple", data := .seq #[x, y] }) z TI TO .ellipsis f1 := Heap.get?_push_of_some _ hz₅
    refine wpAny_bind (wpAny_setField_rec hz₆ (by simp) fun h₇ hz₇ hs₇ => ?_)
    replace hz₇ : IsZipF h₇ z TI TO (rawInt h₅.objs.size) f1 := hz₇
    refine wpAny_setField_rec hz₇ (by simp) fun h₈ hz₈ hs₈ => ?_
    replace hz₈ : IsZipF h₈ z TI TO (rawInt h₅.objs.size) (.bool false) := hz₈
    have up : ∀ c o, c ≠ z → h₅.get? c = some o → h₈.get? c = some o := fun c o c1 e => hs₈.extBut _ _ c1 (hs₇.extBut _ _ c1 (Heap.get?_push_of_some _ e))
    have hT₈ : IsPair h₈ h₅.objs.size x y := hs₈.extBut _ _ (Nat.ne_of_gt hzlt) (hs₇.extBut _ _ (Nat.ne_of_gt hzlt) (Heap.get?_push_size _ rfl))
    have hz8 : h₈.objs.size = h₅.objs.size + 1 := by rw [hs₈.1, hs₇.1, Heap.size_push]
    rw [hsz] at hz₈ hT₈ hz8
    refine wpAny_pure ⟨_, rfl, ?_⟩
    show Q (.ref h₅.objs.size) _
    rw [hsz]
    exact hQ h₈ _ _ _ _ (.inr ⟨_, rfl⟩) hz₈ (up _ _ D.TOz hTO₅) (h1₅.at fun o e => up _ o D.i1z e) (h2₅.at fun o e => up _ o D.i2z e) hT₈ hz8 fun c o c1 c2 c3 c4 e => up c o c1 (hk₅ c o c1 c2 c3 c4 e)
  · rw [if_neg Bool.false_ne_true]
    have hsz : h₁.objs.size = s.heap.objs.size := hs₁.1
    refine wpAny_bind ?_
    simp only [← Array.forIn_toList, List.forIn_cons, List.forIn_nil]
    refine wpAny_bind (wpAny_bind (wpAny_holding ?_))
    show wpAny _ _ (Builtin.SmallTypes.nextOf (.ref i1) >>= _) _ _ _
    refine wpAny_bind (nextOf_tuple_item (s := { s with heap := h₁ }) (h1.extBut hs₁.extBut D.i1z) (hl1.extBut hs₁.extBut D.l1z) hx fun h₂ h1₂ hs₂ => wpAny_pure ?_)
    refine wpAny_pure ?_
    refine wpAny_bind (wpAny_bind (wpAny_holding ?_))
    show wpAny _ _ (Builtin.SmallTypes.nextOf (.ref i2) >>= _) _ _ _
    refine wpAny_bind (nextOf_tuple_item (s := { s with heap := h₂ }) ((h2.extBut hs₁.extBut D.i2z).extBut hs₂.extBut D.i12.symm)
      ((hl2.extBut hs₁.extBut D.l2z).extBut hs₂.extBut D.l2i1) hy fun h₃ h2₃ hs₃ => wpAny_pure ?_)
    refine wpAny_pure (wpAny_pure ?_)
    have hsz3 : h₃.objs.size = s.heap.objs.size := by rw [hs₃.1, hs₂.1, hs₁.1]
    refine wpAny_bind (wpAny_newTuple (items := [x, y]) ?_ (by show 2 ≤ sizeLine; decide))
    refine wpAny_pure ⟨_, rfl, ?_⟩
    have k : ∀ c o, c ≠ z → c ≠ i1 → c ≠ i2 → s.heap.get? c = some o → (h₃.push { cls := .type "tuple", data := .seq #[x, y] }).get? c = some o := fun c o c1 c3 c4 e => Heap.get?_push_of_some _ (hs₃.extBut _ _ c4 (hs₂.extBut _ _ c3 (hs₁.extBut _ _ c1 e)))
    show Q (.ref h₃.objs.size) _
    rw [hsz3]
    have hT : IsPair (h₃.push { cls := .type "tuple", data := .seq #[x, y] }) h₃.objs.size x y := Heap.get?_push_size _ rfl
    rw [hsz3] at hT
    exact hQ _ _ _ _ _ ho (Heap.get?_push_of_some _ (hs₃.extBut _ _ D.i2z.symm (hs₂.extBut _ _ D.i1z.symm hz₁))) (k _ _ D.TOz D.TOi1 D.TOi2 hTO)
      ((h1₂.extBut hs₃.extBut D.i12).at fun o e => Heap.get?_push_of_some _ e) (h2₃.at fun o e => Heap.get?_push_of_some _ e) hT (by rw [Heap.size_push, hsz3]) fun c o c1 _ c3 c4 e => k c o c1 c3 c4 e
theorem zipN_next_end {z TI TO i1 i2 l1 l2 : Addr} {k1 k2 : Nat} {xs ys : Array Value} {a b f0 f1 : Value} {Q : Fin → Shared → Prop} (hh : A.handled = none) (D : ZipApart z TI TO i1 i2 l1 l2) (ho : Owned f0)
    (hz : IsZipF s.heap z TI TO f0 f1) (hTI : IsPair s.heap TI (.ref i1) (.ref i2)) (hTO : IsPair s.heap TO a b)
    (h1 : s.heap.IsTupleIter i1 l1 k1) (h2 : s.heap.IsTupleIter i2 l2 k2) (hl1 : s.heap.IsTuple l1 xs) (hl2 : s.heap.IsTuple l2 ys) (hend : xs[k1]? = none ∨ ys[k2]? = none)
    (hE : ∀ h' e, (∀ c o, c ≠ z → c ≠ TO → c ≠ i1 → c ≠ i2 → s.heap.get? c = some o → h'.get? c = some o) → (∃ o, h'.get? e = some o ∧ o.cls = .type "StopIteration") → E (.ref e) { s with heap := h' }) :
    wpAny (model prog w) A (Builtin.«zip.__next__» ⟨[.ref z], []⟩) Q E s := by
  show wpAny _ _ (field (.ref z) 2 >>= _) _ _ _
  refine wpAny_bind (wpAny_field hz rfl (x := .bool false) rfl ?_)
  show wpAny _ _ (field (.ref z) 3 >>= _) _ _ _
  refine wpAny_bind (wpAny_field hz rfl (x := .ref TI) rfl ?_)
  refine wpAny_bind (wpAny_seqItems hTI rfl ?_)
  show wpAny _ _ (Builtin.SmallTypes.ownedTupleIsFree (.ref z) >>= _) _ _ _
  refine wpAny_bind (wpAny_free hz ho ?_ fun h₁ f1' hz₁ hs₁ => ?_)
  · simp only [if_true]
    refine wpAny_bind (wpAny_rule ?_)
    refine wpAny_bind (wpAny_field hz rfl (x := .ref TO) rfl ?_)
    refine wpAny_bind (wpAny_setField_rec hz (by simp) fun h₁ hz₁ hs₁ => ?_)
    replace hz₁ : IsZipF h₁ z TI TO .ellipsis f1 := hz₁
    refine wpAny_bind ?_
    simp only [List.zipIdx_cons, List.zipIdx_nil, List.forIn_cons, List.forIn_nil]
    refine wpAny_bind (wpAny_bind (wpAny_onRaise ?_))
    show wpAny _ _ (Builtin.SmallTypes.nextOf (.ref i1) >>= _) _ _ _
    cases hx : xs[k1]? with
    | none =>
      refine wpAny_bind (nextOf_tuple_end hh (h1.extBut hs₁.extBut D.i1z) (hl1.extBut hs₁.extBut D.l1z) hx fun h₂ e hs₂ he => ?_)
      obtain ⟨oe, hoe, hce⟩ := he
      have hz₂ : IsZipF h₂ z TI TO .ellipsis f1 := hs₂ _ _ D.i1z.symm hz₁
      have hez : e ≠ z := fun x => by subst x; rw [hz₂] at hoe; cases hoe; simp at hce
      refine wpAny_setField_rec hz₂ (by simp) fun h₃ _ hs₃ => hE h₃ e (fun c o c1 _ c3 _ x => hs₃.extBut _ _ c1 (hs₂ _ _ c3 (hs₁.extBut _ _ c1 x))) ⟨oe, hs₃.extBut _ _ hez hoe, hce⟩
    | some x =>
      have hy : ys[k2]? = none := by rcases hend with h | h; rw [hx] at h; cases h; exact h
      refine wpAny_bind (nextOf_tuple_item (h1.extBut hs₁.extBut D.i1z) (hl1.extBut hs₁.extBut D.l1z) hx fun h₂ h1₂ hs₂ => wpAny_pure ?_)
      have hTO₂ : IsPair h₂ TO a b := hs₂.extBut _ _ D.TOi1 (hs₁.extBut _ _ D.TOz hTO)
      refine wpAny_bind (wpAny_seqItems hTO₂ rfl ?_)
      refine wpAny_bind (wpAny_updateSeq_pair hTO₂ fun h₃ hTO₃ hs₃ => ?_)
      refine wpAny_bind (wpAny_letGo (wpAny_pure ?_))
      refine wpAny_bind (wpAny_bind (wpAny_onRaise ?_))
      show wpAny _ _ (Builtin.SmallTypes.nextOf (.ref i2) >>= _) _ _ _
      refine wpAny_bind (nextOf_tuple_end hh (((h2.extBut hs₁.extBut D.i2z).extBut hs₂.extBut D.i12.symm).extBut hs₃.extBut D.TOi2.symm)
        (((hl2.extBut hs₁.extBut D.l2z).extBut hs₂.extBut D.l2i1).extBut hs₃.extBut D.l2TO) hy fun h₄ e hs₄ he => ?_)
      obtain ⟨oe, hoe, hce⟩ := he
      have hz₄ : IsZipF h₄ z TI TO .ellipsis f1 := hs₄ _ _ D.i2z.symm (hs₃.extBut _ _ D.TOz.symm (hs₂.extBut _ _ D.i1z.symm hz₁))
      have hez : e ≠ z := fun x => by subst x; rw [hz₄] at hoe; cases hoe; simp at hce
      refine wpAny_setField_rec hz₄ (by simp) fun h₅ _ hs₅ => hE h₅ e (fun c o c1 c2 c3 c4 x => hs₅.extBut _ _ c1 (hs₄ _ _ c4 (hs₃.extBut _ _ c2 (hs₂.extBut _ _ c3 (hs₁.extBut _ _ c1 x))))) ⟨oe, hs₅.extBut _ _ hez hoe, hce⟩
  · rw [if_neg Bool.false_ne_true]
    refine wpAny_bind ?_
    simp only [← Array.forIn_toList, List.forIn_cons, List.forIn_nil]
    refine wpAny_bind (wpAny_bind (wpAny_holding ?_))
    show wpAny _ _ (Builtin.SmallTypes.nextOf (.ref i1) >>= _) _ _ _
    cases hx : xs[k1]? with
    | none =>
      exact wpAny_bind (nextOf_tuple_end (s := { s with heap := h₁ }) hh (h1.extBut hs₁.extBut D.i1z) (hl1.extBut hs₁.extBut D.l1z) hx fun h₂ e hs₂ he => hE h₂ e (fun c o c1 _ c3 _ x => hs₂ _ _ c3 (hs₁.extBut _ _ c1 x)) he)
    | some x =>
      have hy : ys[k2]? = none := by rcases hend with h | h; rw [hx] at h; cases h; exact h
      refine wpAny_bind (nextOf_tuple_item (s := { s with heap := h₁ }) (h1.extBut hs₁.extBut D.i1z) (hl1.extBut hs₁.extBut D.l1z) hx fun h₂ h1₂ hs₂ => wpAny_pure ?_)
      refine wpAny_pure ?_
      refine wpAny_bind (wpAny_bind (wpAny_holding ?_))
      show wpAny _ _ (Builtin.SmallTypes.nextOf (.ref i2) >>= _) _ _ _
      exact wpAny_bind (nextOf_tuple_end (s := { s with heap := h₂ }) hh ((h2.extBut hs₁.extBut D.i2z).extBut hs₂.extBut D.i12.symm) ((hl2.extBut hs₁.extBut D.l2z).extBut hs₂.extBut D.l2i1) hy
        fun h₃ e hs₃ he => hE h₃ e (fun c o c1 _ c3 c4 x => hs₃ _ _ c4 (hs₂.extBut _ _ c3 (hs₁.extBut _ _ c1 x))) he)
theorem pyNext_zipN_item {z TI TO i1 i2 l1 l2 : Addr} {k1 k2 : Nat} {xs ys : Array Value} {x y a b f0 f1 : Value} {Q : Option Value → Shared → Prop} (D : ZipApart z TI TO i1 i2 l1 l2) (ho : Owned f0)
    (hz : IsZipF s.heap z TI TO f0 f1) (hTI : IsPair s.heap TI (.ref i1) (.ref i2)) (hTO : IsPair s.heap TO a b)
    (h1 : s.heap.IsTupleIter i1 l1 k1) (h2 : s.heap.IsTupleIter i2 l2 k2) (hl1 : s.heap.IsTuple l1 xs) (hl2 : s.heap.IsTuple l2 ys) (hx : xs[k1]? = some x) (hy : ys[k2]? = some y)
    (hQ : ∀ h' f0' f1' a' b', Owned f0' → IsZipF h' z TI TO f0' f1' → IsPair h' TO a' b' → h'.IsTupleIter i1 l1 (k1 + 1) → h'.IsTupleIter i2 l2 (k2 + 1) → IsPair h' s.heap.objs.size x y → h'.objs.size = s.heap.objs.size + 1 →
      (∀ c o, c ≠ z → c ≠ TO → c ≠ i1 → c ≠ i2 → s.heap.get? c = some o → h'.get? c = some o) → Q (some (.ref s.heap.objs.size)) { s with heap := h' }) :
    wpAny (model prog w) A (pyNext (.ref z)) Q E s := by
  have hT : s.TypeIs (.ref z) "zip" := ⟨_, hz, rfl⟩
  unfold pyNext
  exact wpAny_bind (wpAny_attempt (wpAny_callSpecial?_slot (name := Str.ofString "__next__") hT F.slot_zip_next
    (wpAny_call_entry F.slot_zip_next hT F.entry_zip_next
      (zipN_next_item D ho hz hTI hTO h1 h2 hl1 hl2 hx hy fun h' a1 a2 a3 a4 a5 a6 a7 a8 a9 b1 b2 b3 => wpAny_pure (hQ h' a1 a2 a3 a4 a5 a6 a7 a8 a9 b1 b2 b3)) (F.args_zip_next_1 _))))
theorem pyNext_zipN_end {z TI TO i1 i2 l1 l2 : Addr} {k1 k2 : Nat} {xs ys : Array Value} {a b f0 f1 : Value} {Q : Option Value → Shared → Prop} (hh : A.handled = none) (D : ZipApart z TI TO i1 i2 l1 l2) (ho : Owned f0)
    (hz : IsZipF s.heap z TI TO f0 f1) (hTI : IsPair s.heap TI (.ref i1) (.ref i2)) (hTO : IsPair s.heap TO a b)
    (h1 : s.heap.IsTupleIter i1 l1 k1) (h2 : s.heap.IsTupleIter i2 l2 k2) (hl1 : s.heap.IsTuple l1 xs) (hl2 : s.heap.IsTuple l2 ys) (hend : xs[k1]? = none ∨ ys[k2]? = none)
    (hQ : ∀ h', (∀ c o, c ≠ z → c ≠ TO → c ≠ i1 → c ≠ i2 → s.heap.get? c = some o → h'.get? c = some o) → Q none { s with heap := h' }) : wpAny (model prog w) A (pyNext (.ref z)) Q E s := by
  have hT : s.TypeIs (.ref z) "zip" := ⟨_, hz, rfl⟩
  unfold pyNext
  refine wpAny_bind (wpAny_attempt (wpAny_callSpecial?_slot (name := Str.ofString "__next__") hT F.slot_zip_next
    (wpAny_call_entry F.slot_zip_next hT F.entry_zip_next (zipN_next_end hh D ho hz hTI hTO h1 h2 hl1 hl2 hend fun h' e hk he => ?_) (F.args_zip_next_1 _))))
  obtain ⟨o, ho, hc⟩ := he
  refine wpAny_bind (wpAny_isInstance (T := "StopIteration") (b := true) ⟨o, ho, hc⟩ isSubtype_stop ?_)
  exact wpAny_pure (hQ _ hk)
theorem pyIter_zipF {z TI TO : Addr} {f0 f1 : Value} {Q : Value → Shared → Prop} (hz : IsZipF s.heap z TI TO f0 f1) (hQ : Q (.ref z) s) : wpAny (model prog w) A (pyIter (.ref z)) Q E s :=
  by
  have hT : s.TypeIs (.ref z) "zip" := ⟨_, hz, rfl⟩
  refine wpAny_pyIter_slot hT F.slot_zip_iter (wpAny_call_entry F.slot_zip_iter hT F.entry_zip_iter ?_ (F.args_zip_iter_1 _))
  show wpAny _ _ (ret (.ref z)) _ _ s
  exact wpAny_pure ⟨_, rfl, "zip", _, hT, F.slot_zip_next.lookup, hQ⟩
end
end LtZ2
namespace Lt
open PySem PySem.Spec PyProof.Rows L2 LtZ2 RZ
theorem turn_zipN {P : Program} {w : World} {K : PySem.W.Frag} {x : Str} {xp : Pos} {a b z TI TO i1 i2 : Addr} (D : ZipApart z TI TO i1 i2 a b) :
    Turn P w K (.Name x xp) (ItzT K a b) [z, TI, TO, i1, i2] z (fun i h => (∃ f0 f1, Owned f0 ∧ IsZipF h z TI TO f0 f1) ∧ IsPair h TI (.ref i1) (.ref i2) ∧ (∃ x y, IsPair h TO x y) ∧ h.IsTupleIter i1 a i ∧ h.IsTupleIter i2 b i) where
  mem := by simp
  obj := fun i h st c hc => by
    obtain ⟨⟨_, _, _, hz⟩, hTI, ⟨x, y, hTO⟩, ⟨o1, e1, _, d1⟩, ⟨o2, e2, _, d2⟩⟩ := st
    have e' : c = z ∨ c = TI ∨ c = TO ∨ c = i1 ∨ c = i2 := by simpa using hc
    rcases e' with q | q | q | q | q
    · rw [q]; exact ⟨_, hz, fun v q => nomatch q⟩
    · rw [q]; exact ⟨_, hTI, fun v q => nomatch q⟩
    · rw [q]; exact ⟨_, hTO, fun v q => nomatch q⟩
    · rw [q]; exact ⟨o1, e1, fun v q => by rw [d1] at q; cases q⟩
    · rw [q]; exact ⟨o2, e2, fun v q => by rw [d2] at q; cases q⟩
  keep := fun i h h' st k => by
    obtain ⟨⟨f0, f1, hf0, hz⟩, hTI, ⟨x, y, hTO⟩, h1, h2⟩ := st
    exact ⟨⟨f0, f1, hf0, k z (by simp) _ hz⟩, k TI (by simp) _ hTI, ⟨x, y, k TO (by simp) _ hTO⟩, h1.at fun o q => k i1 (by simp) o q, h2.at fun o q => k i2 (by simp) o q⟩
  item := by
    intro X hP hw hK hc i pins s σ H E I hf st hg
    subst hP hw hK
    obtain ⟨⟨f0, f1, hf0, hz⟩, hTI, ⟨x0, y0, hTO⟩, h1, h2⟩ := st
    obtain ⟨xs, ys, x, y, hqx, hqy, hx, hy⟩ := hg
    obtain ⟨its, rv, p, _⟩ := I.tuple hqx
    obtain ⟨its2, rv2, p2, _⟩ := I.tuple hqy
    obtain ⟨u, hu, ru⟩ := rv.get hx
    obtain ⟨u2, hu2, ru2⟩ := rv2.get hy
    have hzl : z < s.heap.objs.size := Heap.lt_size hz
    refine pyNext_zipN_item D hf0 hz hTI hTO h1 h2 p p2 (x := u) (y := u2) (by simpa using hu) (by simpa using hu2) fun h' f0' f1' a' b' ho' z' TO' h1' h2' hT hsz hk => ?_
    refine ⟨_, rfl, wpAny_pure ?_⟩
    have new : ObjOk X.prog X.w (upd H s.heap.objs.size (.tup [x, y])) h' s.heap.objs.size (.tup [x, y]) :=
      ⟨by show 2 ≤ sizeLine; decide, [u, u2], .cons ru (.cons ru2 .nil), ⟨_, hT, rfl, _, rfl⟩⟩
    have I1 : Inv X pins σ (upd H s.heap.objs.size (.tup [x, y])) { s with heap := h' } :=
      I.turnedNew (t' := s.toks) (ch := [z, TI, TO, i1, i2]) (fun c o hb q => hk c o (fun q' => hb (by simp [q'])) (fun q' => hb (by simp [q'])) (fun q' => hb (by simp [q'])) (fun q' => hb (by simp [q'])) q) hf (Nat.le_refl _) new
    refine ⟨.ref s.heap.objs.size, _, I1, rfl, ⟨_, x, y, rfl, I.hok.fresh (Nat.le_refl _), rfl, fun l hl => by rw [I.tuple_inj hl hqx]; exact hx, fun l hl => by rw [I.tuple_inj hl hqy]; exact hy⟩, ⟨⟨f0', f1', ho', z'⟩, ?_, ⟨a', b', TO'⟩, h1', h2'⟩, fun c hcm => ?_⟩
    · exact hk _ _ D.TIz D.TITO D.TIi1 D.TIi2 hTI
    · have hlt : c < s.heap.objs.size := by
        have e' : c = z ∨ c = TI ∨ c = TO ∨ c = i1 ∨ c = i2 := by simpa using hcm
        rcases e' with q | q | q | q | q
        · rw [q]; exact hzl
        · rw [q]; exact Heap.lt_size hTI
        · rw [q]; exact Heap.lt_size hTO
        · rw [q]; obtain ⟨_, e1, _⟩ := h1; exact Heap.lt_size e1
        · rw [q]; obtain ⟨_, e2, _⟩ := h2; exact Heap.lt_size e2
      rw [upd_ne (Nat.ne_of_lt hlt)]
      exact (hf c hcm).1
  done := by
    intro X hP hw hK hc i pins s σ H E I hf st hg
    subst hP hw hK
    obtain ⟨⟨f0, f1, hf0, hz⟩, hTI, ⟨x0, y0, hTO⟩, h1, h2⟩ := st
    obtain ⟨xs, ys, hqx, hqy, hend⟩ := hg
    obtain ⟨its, rv, p, _⟩ := I.tuple hqx
    obtain ⟨its2, rv2, p2, _⟩ := I.tuple hqy
    have l1 := rv.length
    have l2 := rv2.length
    have he : its.toArray[i]? = none ∨ its2.toArray[i]? = none := by
      rcases hend with q | q
      · exact .inl (by simp; omega)
      · exact .inr (by simp; omega)
    exact pyNext_zipN_end (I.ok.hd hc) D hf0 hz hTI hTO h1 h2 p p2 he fun h' hk => ⟨rfl, I.turnedL (t' := s.toks) (ch := [z, TI, TO, i1, i2]) (fun c o hb q =>
      hk c o (fun q' => hb (by simp [q'])) (fun q' => hb (by simp [q'])) (fun q' => hb (by simp [q'])) (fun q' => hb (by simp [q'])) q) hf⟩
  self := fun A i s Q E st h => let ⟨⟨_, _, _, hz⟩, _⟩ := st; pyIter_zipF hz h
def iZipN (K : PySem.W.Frag) (ta : TA) : TI := fun σ H R => ta σ H fun vs H1 => ∃ a b xs ys, vs = [.ref a, .ref b] ∧ SqT K H1 a xs ∧ SqT K H1 b ys ∧ R (ItzT K a b) H1
section
variable {X : Cx} {F : Orc} {ir : Option Nat}
theorem pi_zipN {e e2 : Expr} {ta : TA} {p pos xp : Pos} {x : Str} (hg : Gl X "zip") (hm : X.mg "zip" = none) (ha : PA X [e, e2] ta)
    (hs : starEach [e, e2] X.env = (false, eval e X.env) :: starEach [e2] X.env := by rfl) (hpl : (backTo pos (starEach [e2] X.env)).any (·.1) = false := by rfl) :
    PI X (.Name x xp) (.Call (.Name "zip" p) [e, e2] [] pos) (iZipN X.K ta) := by
  refine ⟨fun pins s σ H R I h => ?_⟩
  refine Call_ (ld_blt I hg hm PyProof.Rows.boot_zip (PyProof.Rows.callWith_type1 (thn (ha.run pos pins s σ H _ I h) fun us s1 ⟨vs, H1, I1, r1, q1⟩ => ?_) hs hpl))
  obtain ⟨a, b, xs, ys, ex, hqx, hqy, q⟩ := q1
  subst ex
  cases r1 with
  | cons r rr =>
    cases rr with
    | cons r' rr =>
      cases rr
      cases r
      cases r'
      have fresh5 : ∀ c, c ∈ [s1.heap.objs.size + 4, s1.heap.objs.size + 2, s1.heap.objs.size + 3, s1.heap.objs.size, s1.heap.objs.size + 1] → FpOk X pins H1 c := fun c hcm => by
        have e' : c = s1.heap.objs.size + 4 ∨ c = s1.heap.objs.size + 2 ∨ c = s1.heap.objs.size + 3 ∨ c = s1.heap.objs.size ∨ c = s1.heap.objs.size + 1 := by simpa using hcm
        have hle : s1.heap.objs.size ≤ c := by
          rcases e' with z | z | z | z | z
          · rw [z]; exact Nat.le_add_right _ _
          · rw [z]; exact Nat.le_add_right _ _
          · rw [z]; exact Nat.le_add_right _ _
          · rw [z]; exact Nat.le_refl _
          · rw [z]; exact Nat.le_add_right _ _
        exact I1.fpOk hle (I1.hok.fresh hle)
      obtain ⟨its, rv, p1, _⟩ := I1.tuple hqx
      obtain ⟨its2, rv2, p2, _⟩ := I1.tuple hqy
      obtain ⟨o1, ho1, _⟩ := id p1
      obtain ⟨o2, ho2, _⟩ := id p2
      refine call_zipT (show s1.heap.IsTuple a its.toArray from p1) (show s1.heap.IsTuple b its2.toArray from p2) fun h' hz hTI hTO h1 h2 hsz hk => wpAny_pyIter_zip hz ?_
      have I2 : Inv X pins σ H1 { s1 with heap := h' } := I1.kept (t' := s1.toks) hk
      exact ⟨s1.heap.objs.size + 4, [s1.heap.objs.size + 4, s1.heap.objs.size + 2, s1.heap.objs.size + 3, s1.heap.objs.size, s1.heap.objs.size + 1], _, _, H1, rfl, I2, turn_zipN (PySem.W.ktu_apart s1.heap.objs.size a b (Heap.lt_size ho1) (Heap.lt_size ho2)), ⟨⟨.none, .bool false, .inl rfl, hz⟩, hTI, ⟨_, _, hTO⟩, h1, h2⟩, fresh5, q⟩
theorem i_zipN {a b : Expr} {m n : E} {p pos xp : Pos} {x : Str} (hg : Gl X "zip") (hm : X.mg "zip" = none) (ha : PA X [a, b] (RS F X.K ir [m, n])) (hs : notStar a = true) (hs2 : notStar b = true) : PI X (.Name x xp) (.Call (.Name "zip" p) [a, b] [] pos) (RI F X.K ir .zipN [m, n]) := by
  refine PI.imp (pi_zipN hg hm ha (star_of hs [b] X.env) (by rw [star_of hs2]; rfl)) fun σ H R q => ?_
  obtain ⟨G, r, ρ, w, ds, w', its, P, e, e2, q⟩ := q
  refine ⟨G, r, ρ, w, ds, w', P, e, fun vs H1 G1 x1 o1 r1 => ?_⟩
  have hl : ds.length = 2 := by
    simp only [evs, Option.bind_eq_some_iff, Option.map_eq_some_iff] at e
    obtain ⟨x, e1, y, ⟨z, e3, u, e4, e5⟩, e6⟩ := e
    cases e4
    cases e6
    rw [← e5]
    rfl
  match ds, hl, r1 with
  | [d1, d2], _, .cons (v := v1) ra (.cons (v := v2) rb .nil) =>
    cases ra with
    | @tup a vs ds g rs => cases rb with
      | @tup b us es g2 rs2 => cases e2; exact ⟨a, b, vs, us, rfl, .of (x1.s _ _ g), .of (x1.s _ _ g2), q _ H1 G1 G1 x1 o1 (.refl _) (fun z => nomatch z) (walk_zi (walk_zipT rfl) (fun H2 h => ⟨.of (h _ _ g), .of (h _ _ g2)⟩) rs rs2)⟩
      | _ => cases e2
    | _ => cases e2
end
end Lt

set_option Elab.async false
set_option linter.all false
set_option maxRecDepth 100000
set_option maxHeartbeats 4000000
/-! LtE: targets, comprehensions, calls. -/
namespace Lt
open PySem PySem.Spec PyProof.Rows L2

/-! ### targets -/
def VarOk (G : Hp) (σ : St) (ρ : Env) : Prop := ∀ (i : Nat) (d : D), ρ[i]? = some (some d) → ∃ v, σ[i]? = some (some v) ∧ Rep G v d
theorem VarOk.mono {G G' : Hp} {σ : St} {ρ : Env} (h : VarOk G σ ρ) (s : Same G G') : VarOk G' σ ρ := fun i d e => let ⟨v, h1, h2⟩ := h i d e; ⟨v, h1, h2.mono s⟩
theorem VarOk.set {G : Hp} {σ : St} {ρ : Env} {i : Nat} {v : V} {d : D} (h : VarOk G σ ρ) (hl : ρ.length ≤ σ.length) (hi : i < ρ.length) (r : Rep G v d) : VarOk G (σ.set i (some v)) (ρ.set i (some d)) := fun j e hj => by
  by_cases hji : i = j
  · subst hji
    rw [List.getElem?_set_self hi] at hj
    cases hj
    exact ⟨v, List.getElem?_set_self (Nat.lt_of_lt_of_le hi hl), r⟩
  · rw [List.getElem?_set_ne hji] at hj
    obtain ⟨u, h1, h2⟩ := h j e hj
    exact ⟨u, by rw [List.getElem?_set_ne hji]; exact h1, h2⟩
theorem VarOk.drop {G : Hp} {σ : St} {ρ : Env} {i : Nat} (h : VarOk G σ ρ) : VarOk G (σ.set i none) (ρ.set i none) := fun j e hj => by
  by_cases hji : i = j
  · subst hji
    by_cases hi : i < ρ.length
    · rw [List.getElem?_set_self hi] at hj; cases hj
    · rw [List.getElem?_eq_none (by simpa using hi)] at hj; cases hj
  · rw [List.getElem?_set_ne hji] at hj
    obtain ⟨u, h1, h2⟩ := h j e hj
    exact ⟨u, by rw [List.getElem?_set_ne hji]; exact h1, h2⟩
def RG (G : Hp → Prop) : Prop := True
/-- a target's reading -/
def RT (tg : Tg) : TG := fun v σ H Q => ∃ G d ρ ρ', Same G H ∧ Rep G v d ∧ VarOk G σ ρ ∧ ρ.length ≤ σ.length ∧ bindT tg d ρ = some ρ' ∧
  ∀ σ', σ'.length = σ.length → ρ'.length = ρ.length → VarOk G σ' ρ' → (∀ j, j ∉ tg.slots → σ'[j]? = σ[j]?) → Q σ' H
def RTs (ts : List Tg) : TGs := fun vs σ H Q => ∃ G ds ρ ρ', Same G H ∧ Reps G vs ds ∧ VarOk G σ ρ ∧ ρ.length ≤ σ.length ∧ bindTs ts ds ρ = some ρ' ∧
  ∀ σ', σ'.length = σ.length → ρ'.length = ρ.length → VarOk G σ' ρ' → (∀ j, j ∉ Tg.slotss ts → σ'[j]? = σ[j]?) → Q σ' H
section
variable {X : Cx} {pos : Pos}
theorem PG.imp {e : Expr} {t t' : TG} (h : PG X e t) (f : ∀ v σ H Q, t' v σ H Q → t v σ H Q) : PG X e t' := ⟨fun pins s σ H v u Q I r q => h.run pins s σ H v u Q I r (f v σ H Q q)⟩
theorem PGs.imp {e : List Expr} {t t' : TGs} (h : PGs X e t) (f : ∀ v σ H Q, t' v σ H Q → t v σ H Q) : PGs X e t' := ⟨fun pins s σ H v u Q I r q => h.run pins s σ H v u Q I r (f v σ H Q q)⟩
theorem g_name {i : Nat} {x : Str} (hN : X.N.Nodup) (hi : X.N[i]? = some x) (hx : Loc X.env.scope x) (hf : X.fn x = true ∨ X.env.scope.names.lookup x = some .local) : PG X (.Name x pos) (RT (.n i)) := by
  refine PG.imp (pg_name hN hi hx hf) fun v σ H Q h => ?_
  obtain ⟨G, d, ρ, ρ', s, r, va, hl, e, q⟩ := h
  simp only [bindT] at e
  split at e
  · rename_i hi
    cases e
    exact q _ (List.length_set ..) (List.length_set ..) (va.set hl hi r) fun j hj => List.getElem?_set_ne (fun z => hj (by simp [Tg.slots, z]))
  · cases e
theorem gs_nil : PGs X [] (RTs []) := by
  refine PGs.imp pgs_nil fun v σ H Q h => ?_
  obtain ⟨G, ds, ρ, ρ', s, r, va, hl, e, q⟩ := h
  cases r with
  | nil => simp only [bindTs] at e; cases e; exact ⟨rfl, q σ rfl rfl va fun _ _ => rfl⟩
  | cons _ _ => simp only [bindTs] at e; cases e
theorem asg_of {e : Expr} (h : notStar e = true) (es : List Expr) (env : PySem.Env) : assignEach (e :: es) env = (false, assign e env) :: assignEach es env := by
  cases e <;> first | rfl | cases h
theorem bindT_len : ∀ (tg : Tg) (d : D) (ρ ρ' : Env), bindT tg d ρ = some ρ' → True := fun _ _ _ _ _ => trivial
theorem gs_cons {e : Expr} {es : List Expr} {t : Tg} {ts : List Tg} (h1 : PG X e (RT t)) (h2 : PGs X es (RTs ts)) (hs : notStar e = true) : PGs X (e :: es) (RTs (t :: ts)) := by
  refine PGs.imp (pgs_cons h1 h2 (by rw [asg_of hs]; rfl)) fun vs σ H Q h => ?_
  obtain ⟨G, ds, ρ, ρ', s, r, va, hl, e, q⟩ := h
  cases r with
  | nil => simp only [bindTs] at e; cases e
  | @cons v d vs ds r rs =>
    simp only [bindTs, Option.bind_eq_some_iff] at e
    obtain ⟨ρ1, e1, e2⟩ := e
    refine ⟨v, vs, rfl, G, d, ρ, ρ1, s, r, va, hl, e1, fun σ1 l1 l2 va1 o1 => ⟨G, ds, ρ1, ρ', s, rs, va1, by omega, e2, fun σ2 l3 l4 va2 o2 => ?_⟩⟩
    refine q σ2 (by omega) (by omega) va2 fun j hj => ?_
    have hj' : j ∉ t.slots ∧ j ∉ Tg.slotss ts := by simpa [Tg.slotss] using hj
    exact (o2 j hj'.2).trans (o1 j hj'.1)
theorem g_tup {es : List Expr} {k : Nat} {ts : List Tg} (hc : X.calm = true) (h : PGs X es (RTs ts)) (hl : es.length = ts.length) (hs : es.all notStar = true) : PG X (.Tuple es k pos) (RT (.t ts)) := by
  have e1 : ∀ es : List Expr, es.all notStar = true → (assignEach es X.env).length = es.length ∧ (assignEach es X.env).findIdx? (·.1) = none := by
    intro es
    induction es with
    | nil => intro _; exact ⟨rfl, rfl⟩
    | cons e es ih =>
      intro h
      rw [List.all_cons, Bool.and_eq_true] at h
      obtain ⟨i1, i2⟩ := ih h.2
      rw [asg_of h.1]
      refine ⟨by simp [i1], ?_⟩
      rw [List.findIdx?_cons]
      simp [i2]
  refine PG.imp (pg_tup hc h (e1 es hs).1 (e1 es hs).2) fun v σ H Q h => ?_
  obtain ⟨G, d, ρ, ρ', s, r, va, hl2, e, q⟩ := h
  cases r with
  | @tup a vs ds g rs =>
    simp only [bindT] at e
    have hlen : ∀ (ts : List Tg) (ds : List D) (ρ ρ' : Env), bindTs ts ds ρ = some ρ' → ts.length = ds.length := by
      intro ts
      induction ts with
      | nil => intro ds ρ ρ' e; cases ds with
        | nil => rfl
        | cons _ _ => simp only [bindTs] at e; cases e
      | cons t ts ih => intro ds ρ ρ' e; cases ds with
        | nil => simp only [bindTs] at e; cases e
        | cons d ds =>
          simp only [bindTs, Option.bind_eq_some_iff] at e
          obtain ⟨ρ1, _, e2⟩ := e
          simp [ih _ _ _ e2]
    refine ⟨a, vs, rfl, .of (s _ _ g), by rw [rs.length, hl, hlen _ _ _ _ e], G, ds, ρ, ρ', s, rs, va, hl2, e, fun σ' l1 l2 va' o => ?_⟩
    exact q σ' l1 l2 va' fun j hj => o j (by simpa [Tg.slots] using hj)
  | _ => simp only [bindT] at e; cases e
end

/-! ### comprehensions -/
theorem wipe_get {σ : St} {i : Nat} : ∀ {vs : List Nat}, i ∈ vs → i < σ.length → (wipe σ vs)[i]? = some none
  | v :: vs, h, hl => by
    unfold wipe
    by_cases hv : v = i
    · subst hv; exact List.getElem?_set_self (by rw [wipe_length]; exact hl)
    · rw [List.getElem?_set_ne hv]
      rcases List.mem_cons.mp h with z | z
      · exact absurd z.symm hv
      · exact wipe_get z hl
theorem wipe_off {σ : St} {i : Nat} : ∀ {vs : List Nat}, i ∉ vs → (wipe σ vs)[i]? = σ[i]?
  | [], _ => rfl
  | v :: vs, h => by
    have h' : i ≠ v ∧ i ∉ vs := by simpa using h
    unfold wipe
    rw [List.getElem?_set_ne (Ne.symm h'.1)]
    exact wipe_off h'.2
theorem wipe_same {σ σ' : St} {vs : List Nat} (hl : σ'.length = σ.length) (h : ∀ j, j ∉ vs → σ'[j]? = σ[j]?) : wipe σ' vs = wipe σ vs := by
  apply List.ext_getElem?
  intro j
  by_cases hj : j ∈ vs
  · by_cases hlt : j < σ.length
    · rw [wipe_get hj hlt, wipe_get hj (by omega)]
    · rw [List.getElem?_eq_none (by rw [wipe_length]; omega), List.getElem?_eq_none (by rw [wipe_length]; omega)]
  · rw [wipe_off hj, wipe_off hj]; exact h j hj
theorem wipeE_len (ρ : Env) : ∀ vs : List Nat, (wipeE ρ vs).length = ρ.length
  | [] => rfl
  | v :: vs => by simp [wipeE, wipeE_len ρ vs]
theorem VarOk.wipe {G : Hp} {σ : St} {ρ : Env} (h : VarOk G σ ρ) : ∀ vs : List Nat, VarOk G (L2.wipe σ vs) (wipeE ρ vs)
  | [] => h
  | v :: vs => by
    show VarOk G ((L2.wipe σ vs).set v none) ((wipeE ρ vs).set v none)
    exact (VarOk.wipe h vs).drop
/-- a clause's tests -/
def RC (F : Orc) (K : PySem.W.Frag) (ir : Option Nat) (m : Option E) : TT := fun σ H Q => ∃ G r ρ w b w', Pre K ir σ H G r ρ w ∧ evc F m ρ w = some (b, w') ∧ ∀ H' G', Ext r H G H' G' → RowOk K r H' G' w' → Q b H'
section
variable {X : Cx} {F : Orc} {ir : Option Nat} {pos : Pos}
theorem PTs.imp {X : Cx} {e : List Expr} {t t' : TT} (h : PTs X e t) (f : ∀ σ H Q, t' σ H Q → t σ H Q) : PTs X e t' := ⟨fun pins s σ H Q I q => h.run pins s σ H Q I (f σ H Q q)⟩
theorem c_none : PTs X [] (RC F X.K ir none) := PTs.imp pts_nil fun σ H Q h => by
  obtain ⟨G, r, ρ, w, b, w', P, e, q⟩ := h
  simp only [evc] at e; cases e
  exact q H G (.refl P.sub) P.row
theorem c_some {e : Expr} {m : E} (h : PT X e (RB F X.K ir m)) : PTs X [e] (RC F X.K ir (some m)) := PTs.imp (pts_one h) fun σ H Q h => by
  obtain ⟨G, r, ρ, w, b, w', P, e, q⟩ := h
  simp only [evc, Option.bind_eq_some_iff, Option.map_eq_some_iff] at e
  obtain ⟨⟨x, w1⟩, e1, t, e2, e3⟩ := e
  obtain rfl := isBl_some e2
  cases e3
  exact ⟨G, r, ρ, w, _, _, P, e1, q⟩
/-- the turn of a comprehension -/
def turnF (F : Orc) (own : List Nat) (tg : Tg) (cond : Option E) (elt : E) (ρ : Env) : D → Option W → Option (Option D × Option W) :=
  fun d w1 => (bindT tg d (wipeE ρ own)).bind fun ρ1 => (evc F cond ρ1 w1).bind fun t => if t.1 then (ev F elt ρ1 t.2).map fun r => (some r.1, r.2) else some (none, t.2)
theorem compL_len (f : D → Option W → Option (Option D × Option W)) : ∀ (its : List D) (w w' : Option W) (ds : List D), compL f its w = some (ds, w') → True := fun _ _ _ _ _ => trivial
/-- a new list, not frozen yet -/
def R1 (F : Orc) (K : PySem.W.Frag) (ir : Option Nat) (m : E) : TE := fun σ H Q => ∃ G r ρ w ds w', Pre K ir σ H G r ρ w ∧ ev F m ρ w = some (.lst ds, w') ∧
  ∀ p vs H' G', Ext r H G H' G' → RowOk K r H' G' w' → H p = none → G' p = none → H' p = some (.lst vs) → Reps G' vs ds → Q (.ref p) H'
def mkLst : E → Bool
  | .comp _ _ _ _ _ _ => true
  | .comp2 _ _ _ _ _ _ _ _ _ _ => true
  | .lst _ => true
  | .blt .list _ => true
  | .bin .Mult (.lst _) _ => true
  | .bin .Add (.lst _) _ => true
  | _ => false
theorem bltD_list_lst {ds : List D} {y : D} (e : bltD .list ds = some y) : ∃ xs, y = .lst xs := by
  match ds, e with
  | [x], e => cases x <;> first | (cases e; exact ⟨_, rfl⟩) | (cases e; done)
theorem ev_isLst {F : Orc} {ms : List E} {ρ : Env} {w w' : Option W} {d : D} (e : ev F (.lst ms) ρ w = some (d, w')) : ∃ ds, d = .lst ds := by
  simp only [ev, Option.bind_eq_some_iff] at e
  obtain ⟨x, _, e⟩ := e
  split at e
  · cases e; exact ⟨_, rfl⟩
  · cases e
theorem opD_lst {op : Operator} (ho : op = .Mult ∨ op = .Add) {xs : List D} {y d : D} (e : opD op (.lst xs) y = some d) : ∃ ds, d = .lst ds := by
  rcases ho with rfl | rfl
  · cases y <;> first
      | (simp only [opD] at e
         split at e
         · cases e; exact ⟨_, rfl⟩
         · cases e)
      | cases e
  · cases y <;> first
      | (simp only [opD] at e
         split at e
         · cases e; exact ⟨_, rfl⟩
         · cases e)
      | cases e
theorem mkLst_bin {op : Operator} {a b : E} (h : mkLst (.bin op a b) = true) : (op = .Mult ∨ op = .Add) ∧ ∃ ms, a = .lst ms := by
  cases op <;> first
    | (cases a <;> first | exact ⟨.inl rfl, _, rfl⟩ | exact ⟨.inr rfl, _, rfl⟩ | cases h)
    | cases h
theorem mkLst_ev {F : Orc} {m : E} (h : mkLst m = true) {ρ : Env} {w w' : Option W} {d : D} (e : ev F m ρ w = some (d, w')) : ∃ ds, d = .lst ds := by
  cases m <;> first
    | (simp only [ev, Option.bind_eq_some_iff] at e
       obtain ⟨x, _, y, _, z, _, e⟩ := e
       split at e
       · cases e; exact ⟨_, rfl⟩
       · cases e)
    | (simp only [ev, Option.bind_eq_some_iff] at e
       obtain ⟨x, _, e⟩ := e
       split at e
       · cases e; exact ⟨_, rfl⟩
       · cases e)
    | (cases h; done)
    | (obtain ⟨ho, ms, rfl⟩ := mkLst_bin h
       simp only [ev, Option.bind_eq_some_iff, Option.map_eq_some_iff] at e
       obtain ⟨x, e1, y, e2, z, e3, e4⟩ := e
       cases e4
       obtain ⟨ds, hx⟩ := ev_isLst (d := x.1) (w' := x.2) (by rw [ev]; exact Option.bind_eq_some_iff.mpr e1)
       rw [hx] at e3
       exact opD_lst ho e3)
    | (rename_i b ms
       cases b <;> first
         | (cases h; done)
         | (simp only [ev, Option.bind_eq_some_iff, Option.map_eq_some_iff] at e
            obtain ⟨x, _, y, e2, e3⟩ := e
            cases e3
            exact bltD_list_lst e2))
/-- frozen -/
theorem re_r1 {F : Orc} {K : PySem.W.Frag} {ir : Option Nat} {m : E} (hm : mkLst m = true) {σ : St} {H : Hp} {Q : VK} (h : RE F K ir m σ H Q) : R1 F K ir m σ H Q := by
  obtain ⟨G, r, ρ, w, d, w', P, e, q⟩ := h
  obtain ⟨ds, rfl⟩ := mkLst_ev hm e
  refine ⟨G, r, ρ, w, ds, w', P, e, fun p vs H' G' x o hp hn hl rs => ?_⟩
  have sDa : Same (upd G' p (.lst vs)) H' := fun b o e => by
    by_cases hb : b = p
    · subst hb; rw [upd_same] at e; rw [hl]; exact e
    · rw [upd_ne hb] at e; exact x.s _ _ e
  refine q _ H' (upd G' p (.lst vs)) ⟨x.g.trans (same_new hn), sDa, x.f, fun b h0 h1 h2 => ?_, x.m⟩ ?_ (rep_lst hn rs)
  · by_cases hb : b = p
    · subst hb; exact absurd hp h1.ne
    · rw [upd_ne hb] at h2; exact x.n b h0 h1 h2
  · refine o.move (fun _ _ _ e => e) o fun a s ns z => ⟨rfl, ?_⟩
    subst z
    cases w' with
    | none => exact o.elim
    | some w2 =>
      have : a ≠ p := fun eap => by
        cases w with
        | none => exact P.row.elim
        | some w3 => have h1 := P.row.1; rw [eap, hp] at h1; cases h1
      rw [upd_ne this]
      exact o.2.1
theorem rd_comp {own : List (Str × Nat)} {tg : Tg} {ik : IK} {ms : List E} {cond : Option E} {melt : E} {σ : St} {H : Hp} {Q : VK}
    (hsl : ∀ j ∈ tg.slots, j ∈ own.map (·.2)) (hir : ∀ i, ir = some i → i ∉ own.map (·.2)) (h : R1 F X.K ir (.comp (own.map (·.2)) tg ik ms cond melt) σ H Q) :
    tLc (RI F X.K ir ik ms) (RT tg) (RC F X.K ir cond) (RE F X.K ir melt) (own.map (·.2)) σ H Q := by
  obtain ⟨G, r, ρ, w, dl, w', P, e, q⟩ := h
  simp only [ev, Option.bind_eq_some_iff] at e
  obtain ⟨⟨xs, w0⟩, e1, its, e2, ⟨ds, w2⟩, e3, e4⟩ := e
  split at e4
  rotate_left
  · cases e4
  rename_i hlen
  cases e4
  have hlen := okLen_iff hlen
  refine ⟨G, r, ρ, w, xs, w0, its, P, e1, e2, fun J H1 G1 Gw x1 o1 gw _ wk => fun Dd hD => ?_⟩
  have e3 : compL (turnF F (own.map (·.2)) tg cond melt ρ) its w0 = some (ds, w2) := e3
  generalize hvs : own.map (·.2) = vs at *
  -- what stands at turn i
  refine lc_it wk (fun i H2 => ∃ G2 wi acc rs rest, Ext r H1 G1 H2 G2 ∧ G2 Dd = none ∧ RowOk X.K r H2 G2 wi ∧ H2 Dd = some (.lst acc) ∧ Reps G2 acc rs ∧
    compL (turnF F vs tg cond melt ρ) (its.drop i) wi = some (rest, w2) ∧ ds = rs ++ rest) ?_ ?_ ?_ ?_
  · refine ⟨G1, w0, [], [], ds, ⟨.refl _, fun b o e => ?_, fun p o n e => ?_, fun _ _ _ h => h, fun p h => ?_⟩, Same.free x1.s hD, ?_, upd_same, .nil, e3, rfl⟩
    · rw [upd_ne (ne_of_none (x1.s _ _ e) hD)]; exact x1.s _ _ e
    · rw [upd_ne (ne_of_none e hD)]; exact e
    · by_cases hp : p = Dd
      · subst hp; exact absurd hD h
      · rw [upd_ne hp]; exact h
    · refine o1.move (fun p o n e => by rw [upd_ne (ne_of_none e hD)]; exact e) o1 fun a s ns z => ?_
      subst z
      cases w0 with
      | none => exact o1.elim
      | some z => exact ⟨upd_ne (ne_of_none o1.1 hD), o1.2.1⟩
  · rintro i H2 hi ⟨G2, wi, acc, rs, rest, x2, _⟩
    exact gw.trans (x2.g.trans x2.s)
  · rintro i x H2 H3 hi ⟨G2, wi, acc, rs, rest, x2, nD, o2, hDa, ra, e5, e6⟩ y
    obtain ⟨d, G3, hd, g3, r3⟩ := y.use (gw.trans x2.g) x2.s
    have hdrop : its.drop i = d :: its.drop (i + 1) := by
      rw [List.drop_eq_getElem_cons hi]
      congr 1
      rw [List.getElem?_eq_getElem hi] at hd
      exact Option.some.inj hd
    rw [hdrop] at e5
    simp only [compL, Option.bind_eq_some_iff, Option.map_eq_some_iff] at e5
    obtain ⟨⟨od, w3⟩, e7, ⟨rest', w4⟩, e8, e9⟩ := e5
    cases e9
    simp only [turnF, Option.bind_eq_some_iff] at e7
    obtain ⟨ρ1, e10, ⟨t, w5⟩, e11, e12⟩ := e7
    have nD3 : G3 Dd = none := by
      cases z : G3 Dd with
      | none => rfl
      | some o => exact absurd nD (g3.n Dd ⟨_, hDa, rfl⟩ (by rw [z]; exact fun z => nomatch z))
    have hDoff : notR r Dd := o1.off hD
    have hD3 : H3 Dd = some (.lst acc) := g3.h _ _ hDa
    have va : VarOk G3 σ ρ := VarOk.mono P.var ((x1.g.trans x2.g).trans g3.g)
    refine ⟨G3, d, wipeE ρ vs, ρ1, g3.s, r3, va.wipe vs, by rw [wipeE_len, wipe_length]; exact P.len, e10, fun σ1 l1 l2 va1 o1' => ?_⟩
    have hw : wipe σ1 vs = wipe σ vs := by
      have e1 : wipe σ1 vs = wipe (wipe σ vs) vs := wipe_same l1 fun j hj => o1' j fun z => hj (hsl j z)
      rw [e1]
      exact wipe_same (wipe_length _ _) fun j hj => wipe_off hj
    refine ⟨hw, ?_⟩
    have P3 : Pre X.K ir σ1 H3 G3 r ρ1 wi := ⟨g3.s, o2.grow g3, va1, fun a s ns z => by
      obtain ⟨i', hi', hv⟩ := P.rowv a s ns z
      refine ⟨i', hi', ?_⟩
      have hn := hir i' hi'
      rw [o1' i' (fun z => hn (hsl i' z)), wipe_off hn]
      exact hv, by rw [l1, l2, wipeE_len, wipe_length]; exact P.len⟩
    refine ⟨G3, r, ρ1, wi, t, w5, P3, e11, fun H4 G4 x4 o4 => ?_⟩
    have X4 : Ext r H1 G1 H4 G4 := (x2.trans g3.ext).trans x4
    have nD4 : G4 Dd = none := by
      cases z : G4 Dd with
      | none => rfl
      | some o => exact absurd nD3 (x4.n Dd hDoff ⟨_, hD3, rfl⟩ (by rw [z]; exact fun z => nomatch z))
    have hD4 : H4 Dd = some (.lst acc) := x4.f _ _ hDoff hD3
    have ra4 : Reps G4 acc rs := (ra.mono g3.g).mono x4.g
    cases t with
    | false =>
      cases e12
      exact ⟨G4, _, acc, rs, _, X4, nD4, o4, hD4, ra4, e8, e6⟩
    | true =>
      simp only [if_true, Option.map_eq_some_iff] at e12
      obtain ⟨⟨z, w6⟩, e13, e14⟩ := e12
      cases e14
      refine ⟨G4, r, ρ1, w5, z, _, P3.next x4 o4, e13, fun v5 H5 G5 x5 o5 r5 => ?_⟩
      have X5 : Ext r H1 G1 H5 G5 := X4.trans x5
      have nD5 : G5 Dd = none := by
        cases z : G5 Dd with
        | none => rfl
        | some o => exact absurd nD4 (x5.n Dd hDoff ⟨_, hD4, rfl⟩ (by rw [z]; exact fun z => nomatch z))
      have hD5 : H5 Dd = some (.lst acc) := x5.f _ _ hDoff hD4
      have hl : acc.length = rs.length := ra.length
      have hz : acc.length < sizeLine := by
        rw [e6] at hlen
        simp only [List.length_append, List.length_cons] at hlen
        omega
      refine ⟨acc, hD5, hz, G5, _, acc ++ [v5], rs ++ [z], _, ⟨X5.g, fun b o e => ?_, fun p o n e => ?_, X5.n, fun p h => ?_⟩, nD5, ?_, upd_same, (ra4.mono x5.g).snoc r5, e8, ?_⟩
      · rw [upd_ne (fun z => by rw [z, nD5] at e; cases e)]; exact X5.s _ _ e
      · rw [upd_ne (ne_of_none e hD)]; exact X5.f p o n e
      · by_cases hp : p = Dd
        · subst hp; exact absurd hD h
        · rw [upd_ne hp]; exact X5.m p h
      · refine o1.move (fun p o n e => by rw [upd_ne (ne_of_none e hD)]; exact X5.f p o n e) o5 fun a s ns z => ?_
        have : a ≠ Dd := fun e => hDoff a s ns z e.symm
        refine ⟨upd_ne this, ?_⟩
        subst z
        cases w6 with
        | none => exact o5.elim
        | some z => exact o5.2.1
      · rw [e6, List.append_assoc]; rfl
  · rintro H2 ⟨G2, wi, acc, rs, rest, x2, nD, o2, hDa, ra, e5, e6⟩
    rw [List.drop_length] at e5
    simp only [compL] at e5
    cases e5
    rw [List.append_nil] at e6
    subst e6
    have hD0 : H Dd = none := by
      cases z : H Dd with
      | none => rfl
      | some o => exact absurd hD (x1.m Dd (by rw [z]; exact fun z => nomatch z))
    exact q Dd acc H2 G2 (x1.trans x2) o2 hD0 nD hDa ra
/-- a walk's turns, begun where the list stands already -/
theorem lc_in {J : It} {n : Nat} {G : Hp → Prop} {Y : Nat → Hp → V → Hp → Prop} (w : Walk J n G Y) {g : TG} {tt : TT} {te : TE} {vs : List Nat} {σ : St} {H1 : Hp} {D : Addr} {Qd : Hp → Prop} (Pv : Nat → Hp → Prop) (h0 : Pv 0 H1) (hG : ∀ i H, i ≤ n → Pv i H → G H)
    (hs : ∀ i x H H', i < n → Pv i H → Y i H x H' → g x (wipe σ vs) H' fun σ2 H2 => wipe σ2 vs = wipe σ vs ∧ tt σ2 H2 fun b H3 =>
      if b = true then te σ2 H3 fun y H4 => ∃ acc, H4 D = some (.lst acc) ∧ acc.length < sizeLine ∧ Pv (i + 1) (upd H4 D (.lst (acc ++ [y]))) else Pv (i + 1) H3) (hd : ∀ H, Pv n H → Qd H) :
    ∃ W : Nat → Nat → Hp → Prop, (∃ m, W 0 m H1) ∧ ∀ i m H, W i m H →
      (J.stop i H ∧ Qd H) ∨ (J.go i H ∧ ∃ Nx : Hp → Prop, (∀ H', Nx H' → ∃ m', m' < m ∧ W (i + 1) m' H') ∧ ∀ x H', J.yld i H x H' → g x (wipe σ vs) H' fun σ2 H2 => wipe σ2 vs = wipe σ vs ∧ tt σ2 H2 fun b H3 =>
        if b = true then te σ2 H3 fun y H4 => ∃ acc, H4 D = some (.lst acc) ∧ acc.length < sizeLine ∧ Nx (upd H4 D (.lst (acc ++ [y]))) else Nx H3) := by
  refine ⟨fun i m H => m = n - i ∧ i ≤ n ∧ Pv i H, ⟨n, by simp, Nat.zero_le _, h0⟩, ?_⟩
  rintro i m H ⟨rfl, hi, p⟩
  have q := hG i H hi p
  by_cases hlt : i < n
  · refine .inr ⟨w.goes i H hlt q, Pv (i + 1), fun H' p' => ⟨n - (i + 1), by omega, rfl, hlt, p'⟩, fun x H' y => hs i x H H' hlt p (w.yields i H x H' hlt q y)⟩
  · have e : i = n := by omega
    subst e
    exact .inl ⟨w.stops H q, hd H p⟩
/-- the first clause's turns -/
theorem lc_out {J : It} {n : Nat} {G : Hp → Prop} {Y : Nat → Hp → V → Hp → Prop} (w : Walk J n G Y) {g : TG} {B : (Hp → Prop) → St → Hp → Prop} {vs : List Nat} {σ : St} {H1 : Hp} {Qd : Hp → Prop} (Pv : Nat → Hp → Prop) (h0 : Pv 0 H1) (hG : ∀ i H, i ≤ n → Pv i H → G H)
    (hs : ∀ i x H H', i < n → Pv i H → Y i H x H' → g x (wipe σ vs) H' (B (Pv (i + 1)))) (hd : ∀ H, Pv n H → Qd H) :
    ∃ W : Nat → Nat → Hp → Prop, (∃ m, W 0 m H1) ∧ ∀ i m H, W i m H →
      (J.stop i H ∧ Qd H) ∨ (J.go i H ∧ ∃ Nx : Hp → Prop, (∀ H', Nx H' → ∃ m', m' < m ∧ W (i + 1) m' H') ∧ ∀ x H', J.yld i H x H' → g x (wipe σ vs) H' (B Nx)) := by
  refine ⟨fun i m H => m = n - i ∧ i ≤ n ∧ Pv i H, ⟨n, by simp, Nat.zero_le _, h0⟩, ?_⟩
  rintro i m H ⟨rfl, hi, p⟩
  have q := hG i H hi p
  by_cases hlt : i < n
  · refine .inr ⟨w.goes i H hlt q, Pv (i + 1), fun H' p' => ⟨n - (i + 1), by omega, rfl, hlt, p'⟩, fun x H' y => hs i x H H' hlt p (w.yields i H x H' hlt q y)⟩
  · have e : i = n := by omega
    subst e
    exact .inl ⟨w.stops H q, hd H p⟩
def turn2 (F : Orc) (own : List Nat) (tg : Tg) (cond : Option E) (tg1 : Tg) (ik1 : IK) (es1 : List E) (cond1 : Option E) (elt : E) (ρ : Env) : D → Option W → Option (List D × Option W) :=
  fun d w1 => (bindT tg d (wipeE ρ own)).bind fun ρ1 => (evc F cond ρ1 w1).bind fun t => if t.1 then (evs F es1 ρ1 t.2).bind fun x1 => (itemsD ik1 x1.1).bind fun its1 => compL (turnF F tg1.slots tg1 cond1 elt ρ1) its1 x1.2 else some ([], t.2)
/-- what stands while a list is made: D its place -/
structure Mk (K : PySem.W.Frag) (r : RA) (Dd : Addr) (H1 G1 H2 G2 : Hp) (wi : Option W) (acc : List V) (rs : List D) : Prop where
  x : Ext r H1 G1 H2 G2
  n : G2 Dd = none
  o : RowOk K r H2 G2 wi
  d : H2 Dd = some (.lst acc)
  r : Reps G2 acc rs
theorem Mk.add {K : PySem.W.Frag} {r : RA} {Dd : Addr} {H1 G1 H4 G4 H5 G5 : Hp} {w1 w5 w6 : Option W} {acc : List V} {rs : List D} {v5 : V} {z : D} (hD : H1 Dd = none) (hDoff : notR r Dd) (o1 : RowOk K r H1 G1 w1) (m : Mk K r Dd H1 G1 H4 G4 w5 acc rs) (x5 : Ext r H4 G4 H5 G5) (o5 : RowOk K r H5 G5 w6) (r5 : Rep G5 v5 z) :
    H5 Dd = some (.lst acc) ∧ Mk K r Dd H1 G1 (upd H5 Dd (.lst (acc ++ [v5]))) G5 w6 (acc ++ [v5]) (rs ++ [z]) := by
  have X5 : Ext r H1 G1 H5 G5 := m.x.trans x5
  have nD5 : G5 Dd = none := by
    cases z : G5 Dd with
    | none => rfl
    | some o => exact absurd m.n (x5.n Dd hDoff ⟨_, m.d, rfl⟩ (by rw [z]; exact fun z => nomatch z))
  have hD5 : H5 Dd = some (.lst acc) := x5.f _ _ hDoff m.d
  refine ⟨hD5, ⟨X5.g, fun b o e => ?_, fun p o n e => ?_, X5.n, fun p h => ?_⟩, nD5, ?_, upd_same, (m.r.mono x5.g).snoc r5⟩
  · rw [upd_ne (fun z => by rw [z, nD5] at e; cases e)]; exact X5.s _ _ e
  · rw [upd_ne (ne_of_none e hD)]; exact X5.f p o n e
  · by_cases hp : p = Dd
    · subst hp; exact absurd hD h
    · rw [upd_ne hp]; exact X5.m p h
  · refine o1.move (fun p o n e => by rw [upd_ne (ne_of_none e hD)]; exact X5.f p o n e) o5 fun a s ns z => ?_
    have : a ≠ Dd := fun e => hDoff a s ns z e.symm
    refine ⟨upd_ne this, ?_⟩
    subst z
    cases w6 with
    | none => exact o5.elim
    | some z => exact o5.2.1
/-- further on, the list as it was -/
theorem Mk.on {K : PySem.W.Frag} {r : RA} {Dd : Addr} {H1 G1 H2 G2 H4 G4 : Hp} {w2 w4 : Option W} {acc : List V} {rs : List D} (hDoff : notR r Dd) (m : Mk K r Dd H1 G1 H2 G2 w2 acc rs) (x4 : Ext r H2 G2 H4 G4) (o4 : RowOk K r H4 G4 w4) : Mk K r Dd H1 G1 H4 G4 w4 acc rs :=
  ⟨m.x.trans x4, by
    cases z : G4 Dd with
    | none => rfl
    | some o => exact absurd m.n (x4.n Dd hDoff ⟨_, m.d, rfl⟩ (by rw [z]; exact fun z => nomatch z)), o4, x4.f _ _ hDoff m.d, m.r.mono x4.g⟩
theorem rd_compT {own : List (Str × Nat)} {tg tg1 : Tg} {ik ik1 : IK} {ms ms1 : List E} {cond cond1 : Option E} {melt : E} {σ : St} {H : Hp} {Q : VK}
    (hsl : ∀ j ∈ tg.slots, j ∈ own.map (·.2)) (hsl1 : ∀ j ∈ tg1.slots, j ∈ own.map (·.2)) (hir : ∀ i, ir = some i → i ∉ own.map (·.2)) (h : R1 F X.K ir (.comp2 (own.map (·.2)) tg ik ms cond tg1 ik1 ms1 cond1 melt) σ H Q) :
    tLc2 (RI F X.K ir ik ms) (RT tg) (RC F X.K ir cond) (RI F X.K ir ik1 ms1) (RT tg1) (RC F X.K ir cond1) (RE F X.K ir melt) (own.map (·.2)) tg1.slots σ H Q := by
  obtain ⟨G, r, ρ, w, dl, w', P, e, q⟩ := h
  simp only [ev, Option.bind_eq_some_iff] at e
  obtain ⟨⟨xs, w0⟩, e1, its, e2, ⟨ds, w2⟩, e3, e4⟩ := e
  split at e4
  rotate_left
  · cases e4
  rename_i hlen
  cases e4
  have hlen := okLen_iff hlen
  refine ⟨G, r, ρ, w, xs, w0, its, P, e1, e2, fun J H1 G1 Gw x1 o1 gw _ wk => fun Dd hD => ?_⟩
  have e3 : compLL (turn2 F (own.map (·.2)) tg cond tg1 ik1 ms1 cond1 melt ρ) its w0 = some (ds, w2) := e3
  have hDoff : notR r Dd := o1.off hD
  generalize hvs : own.map (·.2) = vs at *
  refine lc_out wk (B := fun Nx σ2 H2 => wipe σ2 vs = wipe σ vs ∧ RC F X.K ir cond σ2 H2 fun b H3 =>
      if b = true then RI F X.K ir ik1 ms1 σ2 H3 fun J1 H4 => ∃ W1 : Nat → Nat → Hp → Prop, (∃ m, W1 0 m H4) ∧ ∀ j k H, W1 j k H →
        (J1.stop j H ∧ Nx H) ∨ (J1.go j H ∧ ∃ Nx1 : Hp → Prop, (∀ H', Nx1 H' → ∃ k', k' < k ∧ W1 (j + 1) k' H') ∧ ∀ x H', J1.yld j H x H' → RT tg1 x (wipe σ2 tg1.slots) H' fun σ3 H5 => wipe σ3 tg1.slots = wipe σ2 tg1.slots ∧ RC F X.K ir cond1 σ3 H5 fun b H6 =>
          if b = true then RE F X.K ir melt σ3 H6 fun y H7 => ∃ acc, H7 Dd = some (.lst acc) ∧ acc.length < sizeLine ∧ Nx1 (upd H7 Dd (.lst (acc ++ [y]))) else Nx1 H6)
      else Nx H3)
    (fun i H2 => ∃ G2 wi acc rs rest, Mk X.K r Dd H1 G1 H2 G2 wi acc rs ∧ compLL (turn2 F vs tg cond tg1 ik1 ms1 cond1 melt ρ) (its.drop i) wi = some (rest, w2) ∧ ds = rs ++ rest) ?_ ?_ ?_ ?_
  · refine ⟨G1, w0, [], [], ds, ⟨⟨.refl _, fun b o e => ?_, fun p o n e => ?_, fun _ _ _ h => h, fun p h => ?_⟩, Same.free x1.s hD, ?_, upd_same, .nil⟩, e3, rfl⟩
    · rw [upd_ne (ne_of_none (x1.s _ _ e) hD)]; exact x1.s _ _ e
    · rw [upd_ne (ne_of_none e hD)]; exact e
    · by_cases hp : p = Dd
      · subst hp; exact absurd hD h
      · rw [upd_ne hp]; exact h
    · refine o1.move (fun p o n e => by rw [upd_ne (ne_of_none e hD)]; exact e) o1 fun a s ns z => ?_
      subst z
      cases w0 with
      | none => exact o1.elim
      | some z => exact ⟨upd_ne (ne_of_none o1.1 hD), o1.2.1⟩
  · rintro i H2 hi ⟨G2, wi, acc, rs, rest, m2, _⟩
    exact gw.trans (m2.x.g.trans m2.x.s)
  · rintro i x H2 H3 hi ⟨G2, wi, acc, rs, rest, m2, e5, e6⟩ y
    obtain ⟨d, G3, hd, g3, r3⟩ := y.use (gw.trans m2.x.g) m2.x.s
    have hdrop : its.drop i = d :: its.drop (i + 1) := by
      rw [List.drop_eq_getElem_cons hi]
      congr 1
      rw [List.getElem?_eq_getElem hi] at hd
      exact Option.some.inj hd
    rw [hdrop] at e5
    simp only [compLL, Option.bind_eq_some_iff, Option.map_eq_some_iff] at e5
    obtain ⟨⟨od, w3⟩, e7, ⟨rest', w4⟩, e8, e9⟩ := e5
    cases e9
    simp only [turn2, Option.bind_eq_some_iff] at e7
    obtain ⟨ρ1, e10, ⟨t, w5⟩, e11, e12⟩ := e7
    have m3 : Mk X.K r Dd H1 G1 H3 G3 wi acc rs := m2.on hDoff g3.ext (m2.o.grow g3)
    have va : VarOk G3 σ ρ := VarOk.mono P.var ((x1.g.trans m2.x.g).trans g3.g)
    refine ⟨G3, d, wipeE ρ vs, ρ1, g3.s, r3, va.wipe vs, by rw [wipeE_len, wipe_length]; exact P.len, e10, fun σ1 l1 l2 va1 o1' => ?_⟩
    have hw : wipe σ1 vs = wipe σ vs := by
      have e1 : wipe σ1 vs = wipe (wipe σ vs) vs := wipe_same l1 fun j hj => o1' j fun z => hj (hsl j z)
      rw [e1]
      exact wipe_same (wipe_length _ _) fun j hj => wipe_off hj
    refine ⟨hw, ?_⟩
    have rowv : ∀ a s ns, r = some (a, s, ns) → ∃ i', ir = some i' ∧ σ1[i']? = some (some (V.ref a)) := fun a s ns z => by
      obtain ⟨i', hi', hv⟩ := P.rowv a s ns z
      refine ⟨i', hi', ?_⟩
      have hn := hir i' hi'
      rw [o1' i' (fun z => hn (hsl i' z)), wipe_off hn]
      exact hv
    have len1 : ρ1.length ≤ σ1.length := by rw [l1, l2, wipeE_len, wipe_length]; exact P.len
    have P3 : Pre X.K ir σ1 H3 G3 r ρ1 wi := ⟨g3.s, m3.o, va1, rowv, len1⟩
    refine ⟨G3, r, ρ1, wi, t, w5, P3, e11, fun H4 G4 x4 o4 => ?_⟩
    have m4 : Mk X.K r Dd H1 G1 H4 G4 w5 acc rs := m3.on hDoff x4 o4
    cases t with
    | false =>
      cases e12
      exact ⟨G4, _, acc, rs, _, m4, e8, e6⟩
    | true =>
      simp only [if_true, Option.bind_eq_some_iff] at e12
      obtain ⟨⟨xs1, w6⟩, e13, its1, e14, e15⟩ := e12
      have P4 : Pre X.K ir σ1 H4 G4 r ρ1 w5 := P3.next x4 o4
      refine ⟨G4, r, ρ1, w5, xs1, w6, its1, P4, e13, e14, fun J1 H5 G5 Gw1 x5 o5 gw1 _ wk1 => ?_⟩
      have m5 : Mk X.K r Dd H1 G1 H5 G5 w6 acc rs := m4.on hDoff x5 o5
      have va5 : VarOk G5 σ1 ρ1 := VarOk.mono P4.var x5.g
      refine lc_in wk1 (fun j HH => ∃ GG wj acc1 rs1 rest1, Mk X.K r Dd H1 G1 HH GG wj acc1 rs1 ∧ Same G5 GG ∧ compL (turnF F tg1.slots tg1 cond1 melt ρ1) (its1.drop j) wj = some (rest1, w3) ∧ ds = rs1 ++ (rest1 ++ rest')) ?_ ?_ ?_ ?_
      · exact ⟨G5, w6, acc, rs, od, m5, .refl _, e15, e6⟩
      · rintro j HH hj ⟨GG, wj, acc1, rs1, rest1, mj, sj, _⟩
        exact gw1.trans (sj.trans mj.x.s)
      · rintro j x6 HH HH' hj ⟨GG, wj, acc1, rs1, rest1, mj, sj, e16, e17⟩ y1
        obtain ⟨d1, G6, hd1, g6, r6⟩ := y1.use (gw1.trans sj) mj.x.s
        have hdrop1 : its1.drop j = d1 :: its1.drop (j + 1) := by
          rw [List.drop_eq_getElem_cons hj]
          congr 1
          rw [List.getElem?_eq_getElem hj] at hd1
          exact Option.some.inj hd1
        rw [hdrop1] at e16
        simp only [compL, Option.bind_eq_some_iff, Option.map_eq_some_iff] at e16
        obtain ⟨⟨od1, w7⟩, e18, ⟨rest2, w8⟩, e19, e20⟩ := e16
        cases e20
        simp only [turnF, Option.bind_eq_some_iff] at e18
        obtain ⟨ρ2, e21, ⟨t1, w9⟩, e22, e23⟩ := e18
        have m6 : Mk X.K r Dd H1 G1 HH' G6 wj acc1 rs1 := mj.on hDoff g6.ext (mj.o.grow g6)
        have va6 : VarOk G6 σ1 ρ1 := va5.mono (sj.trans g6.g)
        refine ⟨G6, d1, wipeE ρ1 tg1.slots, ρ2, g6.s, r6, va6.wipe _, by rw [wipeE_len, wipe_length]; exact len1, e21, fun σ2 k1 k2 va2 o2' => ?_⟩
        have hw1 : wipe σ2 tg1.slots = wipe σ1 tg1.slots := by
          have e1 : wipe σ2 tg1.slots = wipe (wipe σ1 tg1.slots) tg1.slots := wipe_same k1 fun j hj => o2' j hj
          rw [e1]
          exact wipe_same (wipe_length _ _) fun j hj => wipe_off hj
        refine ⟨hw1, ?_⟩
        have P6 : Pre X.K ir σ2 HH' G6 r ρ2 wj := ⟨g6.s, m6.o, va2, fun a s ns z => by
          obtain ⟨i', hi', hv⟩ := rowv a s ns z
          refine ⟨i', hi', ?_⟩
          have hn : i' ∉ tg1.slots := fun z => hir i' hi' (hsl1 i' z)
          rw [o2' i' hn, wipe_off hn]
          exact hv, by rw [k1, k2, wipeE_len, wipe_length]; exact len1⟩
        refine ⟨G6, r, ρ2, wj, t1, w9, P6, e22, fun H7 G7 x7 o7 => ?_⟩
        have m7 : Mk X.K r Dd H1 G1 H7 G7 w9 acc1 rs1 := m6.on hDoff x7 o7
        cases t1 with
        | false =>
          cases e23
          exact ⟨G7, _, acc1, rs1, _, m7, (sj.trans g6.g).trans x7.g, e19, e17⟩
        | true =>
          simp only [if_true, Option.map_eq_some_iff] at e23
          obtain ⟨⟨z, w10⟩, e24, e25⟩ := e23
          cases e25
          refine ⟨G7, r, ρ2, w9, z, _, P6.next x7 o7, e24, fun v8 H8 G8 x8 o8 r8 => ?_⟩
          obtain ⟨hD8, m8⟩ := m7.add hD hDoff o1 x8 o8 r8
          have hl : acc1.length = rs1.length := m7.r.length
          have hz : acc1.length < sizeLine := by
            rw [e17] at hlen
            simp only [List.length_append, List.length_cons] at hlen
            omega
          refine ⟨acc1, hD8, hz, G8, _, acc1 ++ [v8], rs1 ++ [z], _, m8, ((sj.trans g6.g).trans x7.g).trans x8.g, e19, ?_⟩
          rw [e17, List.append_assoc]; rfl
      · rintro HH ⟨GG, wj, acc1, rs1, rest1, mj, sj, e16, e17⟩
        rw [List.drop_length] at e16
        simp only [compL] at e16
        cases e16
        rw [List.nil_append] at e17
        exact ⟨GG, _, acc1, rs1, rest', mj, e8, e17⟩
  · rintro H2 ⟨G2, wi, acc, rs, rest, m2, e5, e6⟩
    rw [List.drop_length] at e5
    simp only [compLL] at e5
    cases e5
    rw [List.append_nil] at e6
    subst e6
    have hD0 : H Dd = none := by
      cases z : H Dd with
      | none => rfl
      | some o => exact absurd hD (x1.m Dd (by rw [z]; exact fun z => nomatch z))
    exact q Dd acc H2 G2 (x1.trans m2.x) m2.o hD0 m2.n m2.d m2.r
theorem e_compT {tgE iter tgE1 iter1 elt : Expr} {ifs ifs1 : List Expr} {scope : Scope} {own : List (Str × Nat)} {tg tg1 : Tg} {ik ik1 : IK} {ms ms1 : List E} {cond cond1 : Option E} {melt : E} (hc : X.calm = true) (hN : X.N.Nodup) (hi : PI X tgE iter (RI F X.K ir ik ms)) (ok : BlkOk X.N X.env.scope scope own)
    (hg : ∀ (s : Shared) (H : Hp) (C : Addr) (cl : List (Str × Addr)) (fp : List Addr), PG (X.blk s H scope (compEnvC scope cl C X.env) fp) tgE (RT tg)) (ht : ∀ (s : Shared) (H : Hp) (C : Addr) (cl : List (Str × Addr)) (fp : List Addr), PTs (X.blk s H scope (compEnvC scope cl C X.env) fp) ifs (RC F X.K ir cond))
    (hi1 : ∀ (s : Shared) (H : Hp) (C : Addr) (cl : List (Str × Addr)) (fp : List Addr), PI (X.blk s H scope (compEnvC scope cl C X.env) fp) tgE1 iter1 (RI F X.K ir ik1 ms1))
    (hg1 : ∀ (s : Shared) (H : Hp) (C : Addr) (cl : List (Str × Addr)) (fp : List Addr), PG (X.blk s H scope (compEnvC scope cl C X.env) fp) tgE1 (RT tg1)) (ht1 : ∀ (s : Shared) (H : Hp) (C : Addr) (cl : List (Str × Addr)) (fp : List Addr), PTs (X.blk s H scope (compEnvC scope cl C X.env) fp) ifs1 (RC F X.K ir cond1))
    (he : ∀ (s : Shared) (H : Hp) (C : Addr) (cl : List (Str × Addr)) (fp : List Addr), PE (X.blk s H scope (compEnvC scope cl C X.env) fp) elt (RE F X.K ir melt)) (hs : notSet iter = true) (hs1 : notSet iter1 = true)
    (hsl : ∀ j ∈ tg.slots, j ∈ own.map (·.2)) (hsl1 : ∀ j ∈ tg1.slots, j ∈ own.map (·.2)) (hir : ∀ i, ir = some i → i ∉ own.map (·.2)) :
    PE X (.ListComp elt [⟨tgE, iter, ifs, 0⟩, ⟨tgE1, iter1, ifs1, 0⟩] scope pos) (RE F X.K ir (.comp2 (own.map (·.2)) tg ik ms cond tg1 ik1 ms1 cond1 melt)) :=
  PE.imp (pe_lc2 hc hN hi ok hsl1 hg ht hi1 hg1 ht1 he (set_of hs X.env) (fun env => set_of hs1 env)) fun σ H Q h => rd_compT hsl hsl1 hir (re_r1 rfl h)
theorem e_comp1 {tgE iter elt : Expr} {ifs : List Expr} {scope : Scope} {own : List (Str × Nat)} {tg : Tg} {ik : IK} {ms : List E} {cond : Option E} {melt : E} (hc : X.calm = true) (hN : X.N.Nodup) (hi : PI X tgE iter (RI F X.K ir ik ms)) (ok : BlkOk X.N X.env.scope scope own)
    (hg : ∀ (s : Shared) (H : Hp) (C : Addr) (cl : List (Str × Addr)) (fp : List Addr), PG (X.blk s H scope (compEnvC scope cl C X.env) fp) tgE (RT tg)) (ht : ∀ (s : Shared) (H : Hp) (C : Addr) (cl : List (Str × Addr)) (fp : List Addr), PTs (X.blk s H scope (compEnvC scope cl C X.env) fp) ifs (RC F X.K ir cond))
    (he : ∀ (s : Shared) (H : Hp) (C : Addr) (cl : List (Str × Addr)) (fp : List Addr), PE (X.blk s H scope (compEnvC scope cl C X.env) fp) elt (RE F X.K ir melt)) (hs : notSet iter = true)
    (hsl : ∀ j ∈ tg.slots, j ∈ own.map (·.2)) (hir : ∀ i, ir = some i → i ∉ own.map (·.2)) :
    PE X (.ListComp elt [⟨tgE, iter, ifs, 0⟩] scope pos) (R1 F X.K ir (.comp (own.map (·.2)) tg ik ms cond melt)) :=
  PE.imp (pe_lc hc hN hi ok hg ht he (set_of hs X.env)) fun σ H Q h => rd_comp hsl hir h
theorem e_comp {tgE iter elt : Expr} {ifs : List Expr} {scope : Scope} {own : List (Str × Nat)} {tg : Tg} {ik : IK} {ms : List E} {cond : Option E} {melt : E} (hc : X.calm = true) (hN : X.N.Nodup) (hi : PI X tgE iter (RI F X.K ir ik ms)) (ok : BlkOk X.N X.env.scope scope own)
    (hg : ∀ (s : Shared) (H : Hp) (C : Addr) (cl : List (Str × Addr)) (fp : List Addr), PG (X.blk s H scope (compEnvC scope cl C X.env) fp) tgE (RT tg)) (ht : ∀ (s : Shared) (H : Hp) (C : Addr) (cl : List (Str × Addr)) (fp : List Addr), PTs (X.blk s H scope (compEnvC scope cl C X.env) fp) ifs (RC F X.K ir cond))
    (he : ∀ (s : Shared) (H : Hp) (C : Addr) (cl : List (Str × Addr)) (fp : List Addr), PE (X.blk s H scope (compEnvC scope cl C X.env) fp) elt (RE F X.K ir melt)) (hs : notSet iter = true)
    (hsl : ∀ j ∈ tg.slots, j ∈ own.map (·.2)) (hir : ∀ i, ir = some i → i ∉ own.map (·.2)) :
    PE X (.ListComp elt [⟨tgE, iter, ifs, 0⟩] scope pos) (RE F X.K ir (.comp (own.map (·.2)) tg ik ms cond melt)) :=
  PE.imp (e_comp1 hc hN hi ok hg ht he hs hsl hir) fun σ H Q h => re_r1 rfl h
theorem e_lst1 {es : List Expr} {ms : List E} (h : PA X es (RS F X.K ir ms)) : PE X (.List es pos) (R1 F X.K ir (.lst ms)) := by
  refine PE.imp (pe_lst h) fun σ H Q h => ?_
  obtain ⟨G, r, ρ, w, d, w', P, e, q⟩ := h
  simp only [ev, Option.bind_eq_some_iff] at e
  obtain ⟨x, e1, e2⟩ := e
  split at e2
  · rename_i c
    cases e2
    refine ⟨G, r, ρ, w, x.1, x.2, P, e1, fun vs H1 G1 x1 o1 r1 => ⟨by rw [r1.length]; exact okLen_iff c, fun p hp => ?_⟩⟩
    have hp0 : H p = none := by
      cases z : H p with
      | none => rfl
      | some o => exact absurd hp (x1.m p (by rw [z]; exact fun z => nomatch z))
    have nG : G1 p = none := Same.free x1.s hp
    refine q p vs _ G1 ⟨x1.g, fun b o e => ?_, fun b o n e => ?_, x1.n, fun b h => ?_⟩ ?_ hp0 nG upd_same r1
    · rw [upd_ne (fun z => by rw [z, nG] at e; cases e)]; exact x1.s _ _ e
    · rw [upd_ne (ne_of_none e hp0)]; exact x1.f b o n e
    · by_cases hb : b = p
      · subst hb; exact absurd hp0 h
      · rw [upd_ne hb]; exact x1.m b h
    · refine P.row.move (fun b o n e => by rw [upd_ne (ne_of_none e hp0)]; exact x1.f b o n e) o1 fun a s ns z => ?_
      subst z
      cases hw : x.2 with
      | none => rw [hw] at o1; exact o1.elim
      | some z =>
        rw [hw] at o1
        refine ⟨upd_ne (fun e => ?_), o1.2.1⟩
        rw [← e, o1.1] at hp; cases hp
  · cases e2
end
end Lt

set_option Elab.async false
set_option linter.all false
set_option maxRecDepth 100000
set_option maxHeartbeats 4000000
/-! LtX: the keys of a dict of any keys, walked, collected, sorted. -/
namespace Lt
open PySem PySem.W PySem.Calls PyProof.Rows PyProof.V PySem.Spec
section
variable {prog : Program} {w : World} {A : Around} {E : Value → Shared → Prop} {s : Shared} {d : Addr} {es : Array DictEntry} {ep : Nat}
theorem kdl_raw (lo : (d == sysModules) = false) : KdlSrc prog w "dict" d d es.size (fun i v => ∃ en, es[i]? = some en ∧ v = en.key) (fun h => DT.Raw h d es ep) where
  type := fun s hm => DT.Raw.typeIs hm
  there := fun _ hm => ⟨DT.Raw.lt hm, DT.Raw.lt hm⟩
  keep := fun _ _ hm hk => DT.Raw.at' hm fun o e => hk d (.inl rfl) o e
  notList := by decide
  notTuple := by decide
  hint := fun _ _ s _ hm hq => kdl_hint_dict (s := s) (DT.Raw.typeIs hm) hq
  iter := fun A s hh hm => by
    refine ⟨{ cls := .type "dict_keyiterator", data := .fields #[.ref d, .int 0 0, .int es.size 0, .int ep 0] }, fun i h => h.IsKeyIter s.heap.objs.size d i es.size ep ∧ DT.Raw h d es ep, fun E Q hq => ?_, ?_, ⟨⟨_, Heap.get?_push_size _ rfl, rfl, rfl⟩, DT.Raw.push hm _⟩⟩
    · obtain ⟨o, ho, hx, hd⟩ := id hm
      exact L2.iter_keys lo ho hx hd hq
    · have hne : d ≠ s.heap.objs.size := Nat.ne_of_lt (DT.Raw.lt hm)
      exact {
        sub := fun b hb => by simp at hb; simp [hb]
        frame := fun _ _ _ st hk => ⟨st.1.at fun o e => hk _ (by simp) o e, DT.Raw.at' st.2 fun o e => hk d (by simp) o e⟩
        item := fun i s' Q E hi st hQ => by
          obtain ⟨o, ho, hx, hd⟩ := id st.2
          refine L2.next_key_item st.1 ho hd rfl (Array.getElem?_eq_getElem hi) fun h' hit' sb => ?_
          refine hQ _ h' s'.toks ⟨_, Array.getElem?_eq_getElem hi, rfl⟩ ⟨hit', DT.Raw.at' st.2 fun o e => (sb.2 d hne).trans e⟩ fun b o hb e => (sb.2 b (fun z => hb (by simp [z]))).trans e
        done := fun s' Q E st hQ => by
          obtain ⟨o, ho, hx, hd⟩ := id st.2
          exact L2.next_key_end hh st.1 ho hd rfl (Nat.le_refl _) fun h' eb => hQ h' s'.toks fun b o hb e => eb b o (fun z => hb (by simp [z])) e
        self := fun i s' Q E st hQ => wpAny_pyIter_keyiter st.1 hQ }
/-- sorted(d), d a dict of any keys -/
theorem sorted_raw {κ : Heap → List Value → PyProof.Rows.KeyKind} {Q : Value → Shared → Prop} (lo : (d == sysModules) = false) (hh : A.handled = none) (hm : DT.Raw s.heap d es ep) (hn : es.size ≤ sizeLine)
    (S : ∀ (h' : Heap) (tk : Nat) (vs : List Value), (∀ b o, s.heap.get? b = some o → h'.get? b = some o) → vs = es.toList.map (·.key) → SortsAt prog w A.in1.in1 { s with heap := sortingHeap (h'.push (seqObj "list" vs.toArray 0)) h'.objs.size vs, toks := tk } (κ h' vs) vs)
    (h : ∀ (h' : Heap) (tk : Nat) (vs : List Value), (∀ b o, s.heap.get? b = some o → h'.get? b = some o) → vs = es.toList.map (·.key) → Q (.ref h'.objs.size) { s with heap := sortedHeap (h'.push (seqObj "list" vs.toArray 0)) h'.objs.size vs (sortVals (κ h' vs) false vs vs).toArray, toks := tk }) :
    wpAny (model prog w) A (call (.builtin "sorted") [.ref d]) Q E s := by
  refine Calls.call_function_entry PyProof.Rows.kind_sorted PyProof.Rows.plain_sorted PyProof.Rows.entry_sorted (PyProof.Rows.args_sorted1 _) ?_
  unfold Builtin.«sorted»
  refine wpAny_bind (m := checkCount "sorted" 1 1 _) (wpAny_pure ?_)
  refine wpAny_bind (PySem.W.kdu_collect (A := A.in1) (kdl_raw (es := es) (ep := ep) lo) hh hm hn fun h' tk acc hk hacc => ?_)
  have hvs : acc.toList = es.toList.map (·.key) := by
    apply List.ext_getElem?
    intro j
    by_cases hj : j < acc.size
    · have e1 : acc.toList[j]? = some acc[j] := by rw [Array.getElem?_toList]; exact Array.getElem?_eq_getElem hj
      obtain ⟨en, e2, e3⟩ := hacc.2 j acc[j] (Array.getElem?_eq_getElem hj)
      rw [e1, List.getElem?_map, Array.getElem?_toList, e2, e3]
      rfl
    · rw [List.getElem?_eq_none (by simpa using hj), List.getElem?_eq_none (by rw [List.length_map, Array.length_toList, ← hacc.1]; omega)]
  have hl : acc.toList.length ≤ sizeLine := by rw [Array.length_toList, hacc.1]; exact hn
  refine wpAny_bind (wpAny_newList ?_ hl)
  have hoL : (h'.push (seqObj "list" acc.toList.toArray 0)).get? h'.objs.size = some (seqObj "list" acc.toList.toArray 0) := Heap.get?_push_size _ rfl
  show wpAny _ _ _ _ _ { s with heap := h'.push (seqObj "list" acc.toList.toArray 0), toks := tk }
  refine wpAny_bind (wpAny_holding (wpAny_call_entry PyProof.Rows.slot_list_sort ⟨_, hoL, rfl⟩ PyProof.Rows.entry_list_sort ?body (PyProof.Rows.args_list_sort _)))
  case body =>
    refine list_sort_vals (s := { s with heap := h'.push (seqObj "list" acc.toList.toArray 0), toks := tk }) (κ := κ h' acc.toList) hoL (S h' tk _ hk hvs) hl ⟨_, rfl, ?_⟩
    exact wpAny_pure ⟨_, rfl, h h' tk _ hk hvs⟩
end
end Lt

set_option Elab.async false
set_option linter.all false
set_option maxRecDepth 100000
set_option maxHeartbeats 4000000
/-! LtFa: sum, max, min of tuples of numbers. -/
namespace Lt
open PySem PySem.Spec PyProof.Rows L2
section
variable {prog : Program} {w : World} {A : Around} {E : Value → Shared → Prop} {s : Shared} {l : Addr} {its : List Value} {ns : List Int} {Q : Value → Shared → Prop}
theorem sumT_raw (hh : A.handled = none) (hl : s.heap.IsTuple l its.toArray) (hi : IntsAre its ns)
    (h : ∀ h' tk t', (∀ b o, s.heap.get? b = some o → h'.get? b = some o) → Q (.int ns.sum t') { s with heap := h', toks := tk }) : wpAny (model prog w) A (call (.builtin "sum") [.ref l]) Q E s := by
  obtain ⟨xs, e⟩ := hi.allInts.items
  have hn : numsOf (intItems xs).toList = ns := by rw [← e]; exact hi.numsOf
  rw [nums_intItems] at hn
  rw [e] at hl
  refine PySem.W.ktm_sumG hh hl fun h' tk t' hk => ?_
  have := h h' tk t' hk
  rw [preSum_eq, List.take_of_length_le (by simp), hn]; exact this
theorem reads_ints {h : Heap} : ∀ {its : List Value} {ns : List Int}, IntsAre its ns → ReadsAll h its (ns.map PyData.int) []
  | _, _, .nil => .nil
  | _, _, .cons n t r => .cons (as := []) (bs := []) (.int n t) (reads_ints r)
theorem alike_ints (ns : List Int) : PySem.W.AlikeAll (ns.map PyData.int) := by
  constructor
  · intro x hx y hy
    obtain ⟨i, _, rfl⟩ := List.mem_map.mp hx
    obtain ⟨j, _, rfl⟩ := List.mem_map.mp hy
    rfl
  · intro x hx
    obtain ⟨i, _, rfl⟩ := List.mem_map.mp hx
    exact fun z => nomatch z
theorem depth_ints : ∀ ns : List Int, PyData.depthAll (ns.map PyData.int) = 0
  | [] => rfl
  | n :: r => by rw [List.map_cons, PyData.depthAll, depth_ints r]; rfl
theorem fold_max : ∀ (r : List Int) (i : Int), r.foldl max i ∈ i :: r ∧ ∀ y ∈ i :: r, y ≤ r.foldl max i
  | [], i => ⟨by simp, fun y h => by simp at h; subst h; exact Int.le_refl _⟩
  | j :: r, i => by
    obtain ⟨h1, h2⟩ := fold_max r (max i j)
    rw [List.foldl_cons]
    refine ⟨?_, fun y hy => ?_⟩
    · rcases List.mem_cons.mp h1 with h | h
      · rw [h]
        rcases Int.le_total i j with c | c
        · rw [Int.max_eq_right c]; simp
        · rw [Int.max_eq_left c]; simp
      · exact List.mem_cons_of_mem _ (List.mem_cons_of_mem _ h)
    · have h3 := h2 _ List.mem_cons_self
      rcases List.mem_cons.mp hy with h | h
      · rw [h]; omega
      · rcases List.mem_cons.mp h with h | h
        · rw [h]; omega
        · exact h2 y (List.mem_cons_of_mem _ h)
theorem fold_min : ∀ (r : List Int) (i : Int), r.foldl min i ∈ i :: r ∧ ∀ y ∈ i :: r, r.foldl min i ≤ y
  | [], i => ⟨by simp, fun y h => by simp at h; subst h; exact Int.le_refl _⟩
  | j :: r, i => by
    obtain ⟨h1, h2⟩ := fold_min r (min i j)
    rw [List.foldl_cons]
    refine ⟨?_, fun y hy => ?_⟩
    · rcases List.mem_cons.mp h1 with h | h
      · rw [h]
        rcases Int.le_total i j with c | c
        · rw [Int.min_eq_left c]; simp
        · rw [Int.min_eq_right c]; simp
      · exact List.mem_cons_of_mem _ (List.mem_cons_of_mem _ h)
    · have h3 := h2 _ List.mem_cons_self
      rcases List.mem_cons.mp hy with h | h
      · rw [h]; omega
      · rcases List.mem_cons.mp h with h | h
        · rw [h]; omega
        · exact h2 y (List.mem_cons_of_mem _ h)
theorem reads_int {h : Heap} {v : Value} {i : Int} {as : List Addr} (r : Reads h v (.int i) as) : ∃ t, v = .int i t := by
  cases r
  exact ⟨_, rfl⟩
theorem maxT_raw (hh : A.handled = none) (hu : A.units + 1 < cLine) (hl : s.heap.IsTuple l its.toArray) (hi : IntsAre its ns) (hne : 0 < ns.length)
    (h : ∀ h' tk M t', (∀ b o, s.heap.get? b = some o → h'.get? b = some o) → M ∈ ns → (∀ a, a ∈ ns → a ≤ M) → Q (.int M t') { s with heap := h', toks := tk }) : wpAny (model prog w) A (call (.builtin "max") [.ref l]) Q E s := by
  cases ns with
  | nil => simp at hne
  | cons n r =>
    have e1 := depth_ints (n :: r)
    have e2 := alike_ints (n :: r)
    rw [List.map_cons] at e1 e2
    have e3 := reads_ints (h := s.heap) hi
    rw [List.map_cons] at e3
    refine PySem.W.max_tuple_data hh hl e3 e2 (by rw [e1]; exact hu) fun i v h' tk bs _ rd hk => ?_
    rw [PySem.W.maxD_ints] at rd
    obtain ⟨t, rfl⟩ := reads_int rd
    obtain ⟨h1, h2⟩ := fold_max r n
    exact h h' tk _ t hk h1 h2
theorem minT_raw (hh : A.handled = none) (hu : A.units + 1 < cLine) (hl : s.heap.IsTuple l its.toArray) (hi : IntsAre its ns) (hne : 0 < ns.length)
    (h : ∀ h' tk M t', (∀ b o, s.heap.get? b = some o → h'.get? b = some o) → M ∈ ns → (∀ a, a ∈ ns → M ≤ a) → Q (.int M t') { s with heap := h', toks := tk }) : wpAny (model prog w) A (call (.builtin "min") [.ref l]) Q E s := by
  cases ns with
  | nil => simp at hne
  | cons n r =>
    have e1 := depth_ints (n :: r)
    have e2 := alike_ints (n :: r)
    rw [List.map_cons] at e1 e2
    have e3 := reads_ints (h := s.heap) hi
    rw [List.map_cons] at e3
    refine PySem.W.min_tuple_data hh hl e3 e2 (by rw [e1]; exact hu) fun i v h' tk bs _ rd hk => ?_
    rw [PySem.W.minD_ints] at rd
    obtain ⟨t, rfl⟩ := reads_int rd
    obtain ⟨h1, h2⟩ := fold_min r n
    exact h h' tk _ t hk h1 h2
end
section
variable {X : Cx}
def rSumT (K : PySem.W.Frag) : List V → Hp → VK → Prop := fun vs H Q => ∃ (a : Addr) (ns : List Int), vs = [V.ref a] ∧ SqT K H a (ns.map V.int) ∧ Q (.int ns.sum) H
def rMaxT (K : PySem.W.Frag) : List V → Hp → VK → Prop := fun vs H Q => ∃ (a : Addr) (ns : List Int), vs = [V.ref a] ∧ SqT K H a (ns.map V.int) ∧ 0 < ns.length ∧ ∀ m, m ∈ ns → (∀ y, y ∈ ns → y ≤ m) → Q (.int m) H
def rMinT (K : PySem.W.Frag) : List V → Hp → VK → Prop := fun vs H Q => ∃ (a : Addr) (ns : List Int), vs = [V.ref a] ∧ SqT K H a (ns.map V.int) ∧ 0 < ns.length ∧ ∀ m, m ∈ ns → (∀ y, y ∈ ns → m ≤ y) → Q (.int m) H
theorem cr_sumT (hc : X.calm = true) : CallR X (.builtin "sum") (rSumT X.K) := by
  intro pins s σ H vs us Q I r h
  obtain ⟨a, ns, rfl, hs, q⟩ := h
  obtain ⟨its, rv, hl, _⟩ := I.tuple hs
  rw [Vals.ref1 r]
  exact sumT_raw (I.ok.hd hc) hl rv.ints fun h' tk t' hk => ⟨.int _, H, I.kept hk, ⟨_, rfl⟩, q⟩
theorem cr_maxT (hc : X.calm = true) (hu : X.A.units + 1 < cLine) : CallR X (.builtin "max") (rMaxT X.K) := by
  intro pins s σ H vs us Q I r h
  obtain ⟨a, ns, rfl, hs, hne, q⟩ := h
  obtain ⟨its, rv, hl, _⟩ := I.tuple hs
  rw [Vals.ref1 r]
  exact maxT_raw (I.ok.hd hc) hu hl rv.ints hne fun h' tk m t' hk h1 h2 => ⟨.int _, H, I.kept hk, ⟨_, rfl⟩, q m h1 h2⟩
theorem cr_minT (hc : X.calm = true) (hu : X.A.units + 1 < cLine) : CallR X (.builtin "min") (rMinT X.K) := by
  intro pins s σ H vs us Q I r h
  obtain ⟨a, ns, rfl, hs, hne, q⟩ := h
  obtain ⟨its, rv, hl, _⟩ := I.tuple hs
  rw [Vals.ref1 r]
  exact minT_raw (I.ok.hd hc) hu hl rv.ints hne fun h' tk m t' hk h1 h2 => ⟨.int _, H, I.kept hk, ⟨_, rfl⟩, q m h1 h2⟩
end
end Lt

set_option Elab.async false
set_option linter.all false
set_option maxRecDepth 100000
set_option maxHeartbeats 4000000
/-! LtF: calls of built-ins, of defs; isinstance; the draw list's cells. -/
namespace Lt
open PySem PySem.Spec PyProof.Rows L2

def rB (f : List D → Option D) : List V → Hp → VK → Prop := fun vs H Q => ∃ G ds d, Same G H ∧ Reps G vs ds ∧ f ds = some d ∧ ∀ v H' G', Grow H G H' G' → Rep G' v d → Q v H'
theorem one_of {G : Hp} {vs : List V} {d : D} (r : Reps G vs [d]) : ∃ v, vs = [v] ∧ Rep G v d := by
  cases r with
  | cons h r => cases r; exact ⟨_, rfl, h⟩
theorem two_of {G : Hp} {vs : List V} {d e : D} (r : Reps G vs [d, e]) : ∃ v u, vs = [v, u] ∧ Rep G v d ∧ Rep G u e := by
  cases r with
  | cons h r => cases r with
    | cons h2 r => cases r; exact ⟨_, _, rfl, h, h2⟩
section
variable {X : Cx}
theorem b_len : CallR X (.builtin "len") (rB (bltD .len)) := by
  intro pins s σ H xs us Q I r h
  obtain ⟨G, ds, d, sb, rs, e, q⟩ := h
  match ds, rs, e with
  | [.lst ys], rs, e =>
    obtain ⟨v, rfl, rv⟩ := one_of rs
    cases rv with
    | @lst a vs ds g rr =>
      cases e
      exact call_len_seq pins s σ H _ us Q I r ⟨a, vs, rfl, .inl (.of (sb _ _ g)), by rw [rr.length]; exact q _ H G (.refl sb) (.int _)⟩
  | [.tup ys], rs, e =>
    obtain ⟨v, rfl, rv⟩ := one_of rs
    cases rv with
    | @tup a vs ds g rr =>
      cases e
      exact call_len_seq pins s σ H _ us Q I r ⟨a, vs, rfl, .inr (.of (sb _ _ g)), by rw [rr.length]; exact q _ H G (.refl sb) (.int _)⟩
theorem b_abs : CallR X (.builtin "abs") (rB (bltD .abs)) := by
  intro pins s σ H xs us Q I r h
  obtain ⟨G, ds, d, sb, rs, e, q⟩ := h
  match ds, rs, e with
  | [.int i], rs, e =>
    obtain ⟨v, rfl, rv⟩ := one_of rs
    cases rv
    cases e
    exact call_abs pins s σ H _ us Q I r ⟨i, rfl, q _ H G (.refl sb) (.int _)⟩
theorem b_max2 (hc : X.calm = true) : CallR X (.builtin "max") (rB (bltD .max2)) := by
  intro pins s σ H xs us Q I r h
  obtain ⟨G, ds, d, sb, rs, e, q⟩ := h
  match ds, rs, e with
  | [.int i, .int j], rs, e =>
    obtain ⟨v, u, rfl, rv, ru⟩ := two_of rs
    cases rv
    cases ru
    cases e
    exact call_max2 hc pins s σ H _ us Q I r ⟨i, j, rfl, q _ H G (.refl sb) (.int _)⟩
theorem b_min2 (hc : X.calm = true) : CallR X (.builtin "min") (rB (bltD .min2)) := by
  intro pins s σ H xs us Q I r h
  obtain ⟨G, ds, d, sb, rs, e, q⟩ := h
  match ds, rs, e with
  | [.int i, .int j], rs, e =>
    obtain ⟨v, u, rfl, rv, ru⟩ := two_of rs
    cases rv
    cases ru
    cases e
    exact call_min2 hc pins s σ H _ us Q I r ⟨i, j, rfl, q _ H G (.refl sb) (.int _)⟩
theorem foldmax : ∀ (r : List Int) (i : Int), (r.foldl (fun m j => if j > m then j else m) i ∈ i :: r) ∧ ∀ y ∈ i :: r, y ≤ r.foldl (fun m j => if j > m then j else m) i
  | [], i => ⟨by simp, fun y h => by simp at h; subst h; exact Int.le_refl _⟩
  | j :: r, i => by
    obtain ⟨h1, h2⟩ := foldmax r (if j > i then j else i)
    rw [List.foldl_cons]
    constructor
    · rcases List.mem_cons.mp h1 with h | h
      · rw [h]; split <;> simp
      · exact List.mem_cons_of_mem _ (List.mem_cons_of_mem _ h)
    · intro y hy
      have h3 := h2 _ List.mem_cons_self
      have h4 : i ≤ (if j > i then j else i) ∧ j ≤ (if j > i then j else i) := by split <;> omega
      rcases List.mem_cons.mp hy with h | h
      · rw [h]; exact Int.le_trans h4.1 h3
      · rcases List.mem_cons.mp h with h | h
        · rw [h]; exact Int.le_trans h4.2 h3
        · exact h2 y (List.mem_cons_of_mem _ h)
theorem foldmin : ∀ (r : List Int) (i : Int), (r.foldl (fun m j => if j < m then j else m) i ∈ i :: r) ∧ ∀ y ∈ i :: r, r.foldl (fun m j => if j < m then j else m) i ≤ y
  | [], i => ⟨by simp, fun y h => by simp at h; subst h; exact Int.le_refl _⟩
  | j :: r, i => by
    obtain ⟨h1, h2⟩ := foldmin r (if j < i then j else i)
    rw [List.foldl_cons]
    constructor
    · rcases List.mem_cons.mp h1 with h | h
      · rw [h]; split <;> simp
      · exact List.mem_cons_of_mem _ (List.mem_cons_of_mem _ h)
    · intro y hy
      have h3 := h2 _ List.mem_cons_self
      have h4 : (if j < i then j else i) ≤ i ∧ (if j < i then j else i) ≤ j := by split <;> omega
      rcases List.mem_cons.mp hy with h | h
      · rw [h]; exact Int.le_trans h3 h4.1
      · rcases List.mem_cons.mp h with h | h
        · rw [h]; exact Int.le_trans h3 h4.2
        · exact h2 y (List.mem_cons_of_mem _ h)
theorem maxI_spec {ns : List Int} (h : ns ≠ []) : maxI ns ∈ ns ∧ ∀ y ∈ ns, y ≤ maxI ns := by
  cases ns with
  | nil => exact absurd rfl h
  | cons i r => exact foldmax r i
theorem minI_spec {ns : List Int} (h : ns ≠ []) : minI ns ∈ ns ∧ ∀ y ∈ ns, minI ns ≤ y := by
  cases ns with
  | nil => exact absurd rfl h
  | cons i r => exact foldmin r i
theorem b_maxL (hc : X.calm = true) (hu : X.A.units + 1 < cLine) : CallR X (.builtin "max") (rB (bltD .maxL)) := by
  intro pins s σ H xs us Q I r h
  obtain ⟨G, ds, d, sb, rs, e, q⟩ := h
  match ds, rs, e with
  | [.lst ys], rs, e =>
    obtain ⟨v, rfl, rv⟩ := one_of rs
    cases rv with
    | @lst a vs ds g rr =>
      simp only [bltD, Option.bind_eq_some_iff] at e
      obtain ⟨ns, e1, e2⟩ := e
      split at e2
      · cases e2
      · rename_i hne
        have hn : ns ≠ [] := fun z => hne (by rw [z]; rfl)
        cases e2
        have hv := rr.ints e1
        subst hv
        refine cr_max hc pins s σ H _ us Q I r ⟨a, ns, rfl, .of (sb _ _ g), List.length_pos_iff.mpr hn, fun m hm hy => ?_⟩
        obtain ⟨h1, h2⟩ := maxI_spec hn
        have : m = maxI ns := Int.le_antisymm (h2 m hm) (hy _ h1)
        subst this
        exact q _ H G (.refl sb) (.int _)
  | [.tup ys], rs, e =>
    obtain ⟨v, rfl, rv⟩ := one_of rs
    cases rv with
    | @tup a vs ds g rr =>
      simp only [bltD, Option.bind_eq_some_iff] at e
      obtain ⟨ns, e1, e2⟩ := e
      split at e2
      · cases e2
      · rename_i hne
        have hn : ns ≠ [] := fun z => hne (by rw [z]; rfl)
        cases e2
        have hv := rr.ints e1
        subst hv
        refine cr_maxT hc hu pins s σ H _ us Q I r ⟨a, ns, rfl, .of (sb _ _ g), List.length_pos_iff.mpr hn, fun m hm hy => ?_⟩
        obtain ⟨h1, h2⟩ := maxI_spec hn
        have : m = maxI ns := Int.le_antisymm (h2 m hm) (hy _ h1)
        subst this
        exact q _ H G (.refl sb) (.int _)
theorem b_minL (hc : X.calm = true) (hu : X.A.units + 1 < cLine) : CallR X (.builtin "min") (rB (bltD .minL)) := by
  intro pins s σ H xs us Q I r h
  obtain ⟨G, ds, d, sb, rs, e, q⟩ := h
  match ds, rs, e with
  | [.lst ys], rs, e =>
    obtain ⟨v, rfl, rv⟩ := one_of rs
    cases rv with
    | @lst a vs ds g rr =>
      simp only [bltD, Option.bind_eq_some_iff] at e
      obtain ⟨ns, e1, e2⟩ := e
      split at e2
      · cases e2
      · rename_i hne
        have hn : ns ≠ [] := fun z => hne (by rw [z]; rfl)
        cases e2
        have hv := rr.ints e1
        subst hv
        refine cr_min hc pins s σ H _ us Q I r ⟨a, ns, rfl, .of (sb _ _ g), List.length_pos_iff.mpr hn, fun m hm hy => ?_⟩
        obtain ⟨h1, h2⟩ := minI_spec hn
        have : m = minI ns := Int.le_antisymm (hy _ h1) (h2 m hm)
        subst this
        exact q _ H G (.refl sb) (.int _)
  | [.tup ys], rs, e =>
    obtain ⟨v, rfl, rv⟩ := one_of rs
    cases rv with
    | @tup a vs ds g rr =>
      simp only [bltD, Option.bind_eq_some_iff] at e
      obtain ⟨ns, e1, e2⟩ := e
      split at e2
      · cases e2
      · rename_i hne
        have hn : ns ≠ [] := fun z => hne (by rw [z]; rfl)
        cases e2
        have hv := rr.ints e1
        subst hv
        refine cr_minT hc hu pins s σ H _ us Q I r ⟨a, ns, rfl, .of (sb _ _ g), List.length_pos_iff.mpr hn, fun m hm hy => ?_⟩
        obtain ⟨h1, h2⟩ := minI_spec hn
        have : m = minI ns := Int.le_antisymm (hy _ h1) (h2 m hm)
        subst this
        exact q _ H G (.refl sb) (.int _)
theorem b_sum (hc : X.calm = true) : CallR X (.builtin "sum") (rB (bltD .sum)) := by
  intro pins s σ H xs us Q I r h
  obtain ⟨G, ds, d, sb, rs, e, q⟩ := h
  match ds, rs, e with
  | [.lst ys], rs, e =>
    obtain ⟨v, rfl, rv⟩ := one_of rs
    cases rv with
    | @lst a vs ds g rr =>
      simp only [bltD, Option.map_eq_some_iff] at e
      obtain ⟨ns, e1, e2⟩ := e
      cases e2
      have hv := rr.ints e1
      subst hv
      exact cr_sum hc pins s σ H _ us Q I r ⟨a, ns, rfl, .of (sb _ _ g), q _ H G (.refl sb) (.int _)⟩
  | [.tup ys], rs, e =>
    obtain ⟨v, rfl, rv⟩ := one_of rs
    cases rv with
    | @tup a vs ds g rr =>
      simp only [bltD, Option.map_eq_some_iff] at e
      obtain ⟨ns, e1, e2⟩ := e
      cases e2
      have hv := rr.ints e1
      subst hv
      exact cr_sumT hc pins s σ H _ us Q I r ⟨a, ns, rfl, .of (sb _ _ g), q _ H G (.refl sb) (.int _)⟩
theorem b_all (hc : X.calm = true) : CallR X (.builtin "all") (rB (bltD .all)) := by
  intro pins s σ H xs us Q I r h
  obtain ⟨G, ds, d, sb, rs, e, q⟩ := h
  match ds, rs, e with
  | [.lst ys], rs, e =>
    obtain ⟨v, rfl, rv⟩ := one_of rs
    cases rv with
    | @lst a vs ds g rr =>
      simp only [bltD, Option.map_eq_some_iff] at e
      obtain ⟨ns, e1, e2⟩ := e
      cases e2
      have hv := rr.bls e1
      subst hv
      exact cr_all hc pins s σ H _ us Q I r ⟨a, ns, rfl, .of (sb _ _ g), q _ H G (.refl sb) (.bl _)⟩
theorem b_any (hc : X.calm = true) : CallR X (.builtin "any") (rB (bltD .any)) := by
  intro pins s σ H xs us Q I r h
  obtain ⟨G, ds, d, sb, rs, e, q⟩ := h
  match ds, rs, e with
  | [.lst ys], rs, e =>
    obtain ⟨v, rfl, rv⟩ := one_of rs
    cases rv with
    | @lst a vs ds g rr =>
      simp only [bltD, Option.map_eq_some_iff] at e
      obtain ⟨ns, e1, e2⟩ := e
      cases e2
      have hv := rr.bls e1
      subst hv
      exact cr_any hc pins s σ H _ us Q I r ⟨a, ns, rfl, .of (sb _ _ g), q _ H G (.refl sb) (.bl _)⟩
theorem b_tuple : CallR X (.type "tuple") (rB (bltD .tuple)) := by
  intro pins s σ H xs us Q I r h
  obtain ⟨G, ds, d, sb, rs, e, q⟩ := h
  match ds, rs, e with
  | [x], rs, e =>
    obtain ⟨v, rfl, rv⟩ := one_of rs
    cases rv with
    | @lst a vs ds g rr =>
      cases e
      exact call_tuple_of pins s σ H _ us Q I r ⟨a, vs, rfl, .inl ⟨.of (sb _ _ g), fun l hl => q _ _ _ (.new sb hl) (rep_tup (Same.free sb hl) rr)⟩⟩
    | @tup a vs ds g rr =>
      cases e
      exact call_tuple_of pins s σ H _ us Q I r ⟨a, vs, rfl, .inr ⟨.of (sb _ _ g), q _ H G (.refl sb) (.tup g rr)⟩⟩
    | _ => cases e
theorem b_list : CallR X (.type "list") (rB (bltD .list)) := by
  intro pins s σ H xs us Q I r h
  obtain ⟨G, ds, d, sb, rs, e, q⟩ := h
  match ds, rs, e with
  | [x], rs, e =>
    obtain ⟨v, rfl, rv⟩ := one_of rs
    cases rv with
    | @lst a vs ds g rr =>
      cases e
      exact call_list_of pins s σ H _ us Q I r ⟨a, vs, rfl, .inl (.of (sb _ _ g)), fun l hl => q _ _ _ (.new sb hl) (rep_lst (Same.free sb hl) rr)⟩
    | @tup a vs ds g rr =>
      cases e
      exact call_list_of pins s σ H _ us Q I r ⟨a, vs, rfl, .inr (.of (sb _ _ g)), fun l hl => q _ _ _ (.new sb hl) (rep_lst (Same.free sb hl) rr)⟩
    | _ => cases e
/-- list(..), new -/
def rB1 (f : List D → Option D) : List V → Hp → VK → Prop := fun vs H Q => ∃ G ds d, Same G H ∧ Reps G vs ds ∧ f ds = some (.lst d) ∧ ∀ l us, H l = none → Reps G us d → Q (.ref l) (upd H l (.lst us))
theorem b_list1 : CallR X (.type "list") (rB1 (bltD .list)) := by
  intro pins s σ H xs us Q I r h
  obtain ⟨G, ds, d, sb, rs, e, q⟩ := h
  match ds, rs, e with
  | [x], rs, e =>
    obtain ⟨v, rfl, rv⟩ := one_of rs
    cases rv with
    | @lst a vs ds g rr =>
      cases e
      exact call_list_of pins s σ H _ us Q I r ⟨a, vs, rfl, .inl (.of (sb _ _ g)), fun l hl => q l vs hl rr⟩
    | @tup a vs ds g rr =>
      cases e
      exact call_list_of pins s σ H _ us Q I r ⟨a, vs, rfl, .inr (.of (sb _ _ g)), fun l hl => q l vs hl rr⟩
    | _ => cases e
theorem b_int : CallR X (.type "int") (rB (bltD .int)) := by
  intro pins s σ H xs us Q I r h
  obtain ⟨G, ds, d, sb, rs, e, q⟩ := h
  match ds, rs, e with
  | [x], rs, e =>
    obtain ⟨v, rfl, rv⟩ := one_of rs
    cases rv with
    | int i => cases e; exact call_int1 pins s σ H _ us Q I r (.inl ⟨i, rfl, q _ H G (.refl sb) (.int _)⟩)
    | bl b => cases e; exact call_int1 pins s σ H _ us Q I r (.inr ⟨b, rfl, q _ H G (.refl sb) (.int _)⟩)
    | _ => cases e
  | [], rs, e => cases e
  | _ :: _ :: _, rs, e => simp [bltD] at e
/-! ### sorted -/
theorem eachR {G : Hp} : ∀ {vs : List V} {us : List Value} {ds : List D}, Vals vs us → Reps G vs ds → PySem.W.EachIs (fun u d => ∃ x, RelV x u ∧ Rep G x d) us ds
  | _, _, _, .nil, .nil => .nil
  | _, _, _, .cons r t, .cons h k => .cons ⟨_, r, h⟩ (eachR t k)
theorem eachBack {G : Hp} : ∀ {us : List Value} {ds : List D}, PySem.W.EachIs (fun u d => ∃ x, RelV x u ∧ Rep G x d) us ds → ∃ vs, Vals vs us ∧ Reps G vs ds
  | _, _, .nil => ⟨[], .nil, .nil⟩
  | _, _, .cons h k => by
    obtain ⟨x, r, p⟩ := h
    obtain ⟨vs, a, b⟩ := eachBack k
    exact ⟨x :: vs, .cons r a, .cons p b⟩
theorem eachReads {pins : List (Addr × Obj)} {σ : St} {H G : Hp} {s : Shared} (I : Inv X pins σ H s) (sb : Same G H) {h' : Heap} (k : ∀ b o, s.heap.get? b = some o → h'.get? b = some o) :
    ∀ {vs : List V} {us : List Value} {ds : List D}, Vals vs us → Reps G vs ds → ds.all eqOk = true → PySem.W.EachIs (fun v d => ∃ as, Reads h' v d as) us (ds.map D.toP)
  | _, _, _, .nil, .nil, _ => .nil
  | _, _, _, .cons r t, .cons h q, a => by
    rw [List.all_cons, Bool.and_eq_true] at a
    obtain ⟨as, rd⟩ := Dp.reads I _ _ _ (h.dp sb (eqOk_iff a.1).1) r
    exact .cons ⟨as, PyProof.Rows.Reads.keeps k rd⟩ (eachReads I sb k t q a.2)
theorem eachMap {α β γ : Type} {R : α → γ → Prop} (f : β → γ) : ∀ {as : List α} {bs : List β}, PySem.W.EachIs R as (bs.map f) → PySem.W.EachIs (fun a b => R a (f b)) as bs
  | _, [], h => by cases h; exact .nil
  | _, b :: bs, h => by cases h with | cons h t => exact .cons h (eachMap f t)
theorem eachMem {α β : Type} {R S : α → β → Prop} : ∀ {as : List α} {bs : List β}, PySem.W.EachIs R as bs → (∀ a b, b ∈ bs → R a b → S a b) → PySem.W.EachIs S as bs
  | _, _, .nil, _ => .nil
  | _, _, .cons h t, f => .cons (f _ _ List.mem_cons_self h) (eachMem t fun a b m => f a b (List.mem_cons_of_mem _ m))
/-! ### the keys of a dict -/
theorem key_reps {G : Hp} : ∀ k : List Key, Reps G (k.map kV) (k.map unK)
  | [] => .nil
  | .inl i :: r => .cons (.int i) (key_reps r)
  | .inr s :: r => .cons (.str s) (key_reps r)
theorem keysT_zip : ∀ {ks : List (List Key)} {ds : List D}, ks.length = ds.length → keysT (ks.zip ds) = ks.map fun k => D.tup (k.map unK)
  | [], _, _ => rfl
  | k :: ks, d :: ds, h => by
    have := keysT_zip (ks := ks) (ds := ds) (by simpa using h)
    unfold keysT at this ⊢
    rw [List.zip_cons_cons, List.map_cons, List.map_cons, this]
  | _ :: _, [], h => by cases h
theorem kt_reps {H G1 : Hp} : ∀ {ks : List (List Key)} {vs : List V} {xs : List (List Key × Addr × Value)}, ks.length = vs.length → KT H (ks.zip vs) xs → (∀ x ∈ xs, G1 x.2.1 = H x.2.1) → Reps G1 (xs.map fun x => V.ref x.2.1) (ks.map fun k => D.tup (k.map unK))
  | [], _, _, _, h, _ => by
    cases h with
    | nil => exact .nil
  | k :: ks, v :: vs, xs, hl, h, g => by
    rw [List.zip_cons_cons] at h
    cases h with
    | @cons p x ps ys q t =>
      refine .cons (.tup ((g x (by simp)).trans q.2.1) (key_reps k)) (kt_reps (by simpa using hl) t fun y hy => g y (by simp [hy]))
  | _ :: _, [], _, hl, _, _ => by cases hl
theorem kt_tup {H : Hp} : ∀ {kvs : List (List Key × V)} {xs : List (List Key × Addr × Value)}, KT H kvs xs → ∀ x ∈ xs, ∃ l, H x.2.1 = some (.tup l)
  | _, _, .nil, x, hx => by simp at hx
  | _, _, .cons q t, x, hx => by
    rcases List.mem_cons.mp hx with z | z
    · subst z; exact ⟨_, q.2.1⟩
    · exact kt_tup t x z
theorem vals_refs : ∀ xs : List (List Key × Addr × Value), Vals (xs.map fun x => V.ref x.2.1) (xs.map fun x => Value.ref x.2.1)
  | [] => .nil
  | _ :: r => .cons rfl (vals_refs r)
theorem b_sorted (hcm : X.calm = true) (hu : X.A.units + 100 < cLine) : CallR X (.builtin "sorted") (rB (bltD .sorted)) := by
  intro pins s σ H xs us Q I r h
  obtain ⟨G, ds, d, sb, rs, e, q⟩ := h
  match ds, rs, e with
  | [.dT kvs], rs, e =>
    obtain ⟨v, rfl, rv⟩ := one_of rs
    cases rv with
    | @dT a ks vs ds g hl rr =>
      simp only [bltD] at e
      split at e
      rotate_left
      · cases e
      rename_i c
      cases e
      have hyz := keysT_zip (hl.trans rr.length)
      generalize hys : keysT (ks.zip ds) = ys at c q hyz
      unfold sortOk at c
      simp only [Bool.and_eq_true, List.all_eq_true, Bool.or_eq_true] at c
      obtain ⟨⟨⟨c1, c2⟩, c3⟩, c4⟩ := c
      have c1' : ys.all eqOk = true := List.all_eq_true.mpr c1
      have hH := sb _ _ g
      obtain ⟨z, lo, xs, kt, ob, es, ep, ho, hx, hdat, hes, his, hnd⟩ := dt_rd I.hok (.inl hH)
      rw [Vals.ref1 r]
      have hk1 : es.toList.map (·.key) = xs.map fun x => Value.ref x.2.1 := by rw [hes, List.map_map]; rfl
      have hlen : es.size = ks.length := by
        have e1 := congrArg List.length hes
        have e2 := Paired.length kt
        rw [List.length_map, Array.length_toList] at e1
        rw [List.length_zip, ← hl, Nat.min_self] at e2
        omega
      have hksz : ks.length ≤ sizeLine := by
        rw [List.length_zip, ← hl, Nat.min_self] at z
        exact z
      classical
      let G1 : Hp := fun p => if p ∈ xs.map (·.2.1) then H p else G p
      have gin : ∀ p, p ∈ xs.map (·.2.1) → G1 p = H p := fun p hp => if_pos hp
      have gout : ∀ p, p ∉ xs.map (·.2.1) → G1 p = G p := fun p hp => if_neg hp
      have s1 : Same G1 H := fun p o e => by
        by_cases hp : p ∈ xs.map (·.2.1)
        · rw [gin p hp] at e; exact e
        · rw [gout p hp] at e; exact sb _ _ e
      have s0 : Same G G1 := fun p o e => by
        by_cases hp : p ∈ xs.map (·.2.1)
        · rw [gin p hp]; exact sb _ _ e
        · rw [gout p hp]; exact e
      have gr : Grow H G H G1 := ⟨s0, s1, .refl _, fun p hn h1 => by
        by_cases hp : p ∈ xs.map (·.2.1)
        · obtain ⟨x, hx', rfl⟩ := List.mem_map.mp hp
          obtain ⟨l, hl'⟩ := kt_tup kt x hx'
          obtain ⟨o, h2, h3⟩ := hn
          rw [hl'] at h2
          cases h2
          cases h3
        · rw [gout p hp] at h1; exact h1⟩
      have rr1 : Reps G1 (xs.map fun x => V.ref x.2.1) ys := by
        rw [hyz]
        exact kt_reps hl kt fun x hx' => gin _ (List.mem_map.mpr ⟨x, hx', rfl⟩)
      have rv : Vals (xs.map fun x => V.ref x.2.1) (xs.map fun x => Value.ref x.2.1) := vals_refs xs
      have hal : PySem.W.AllAlike (ys.map D.toP) := fun x hx y hy => by
        obtain ⟨x', hx', rfl⟩ := List.mem_map.mp hx
        obtain ⟨y', hy', rfl⟩ := List.mem_map.mp hy
        exact c2 x' hx' y' hy'
      have hso : PySem.W.Sortable (ys.map D.toP) := by
        rcases c3 with c3 | c3
        · refine .inl fun x hx => ?_
          obtain ⟨x', hx', rfl⟩ := List.mem_map.mp hx
          have := c3 x' hx'
          match x', this with
          | .tup (y :: r), _ => exact ⟨y.toP, D.toPs r, by simp only [D.toP, D.toPs]⟩
        · refine .inr fun x hx => ?_
          obtain ⟨x', hx', rfl⟩ := List.mem_map.mp hx
          have := c3 x' hx'
          cases x' <;> first
            | (constructor <;> simp [D.toP] <;> done)
            | cases this
      have hud : ∀ d, d ∈ ys.map D.toP → X.A.in1.in1.units + d.depth < cLine := fun x hx => by
        obtain ⟨x', hx', rfl⟩ := List.mem_map.mp hx
        have h1 := SeqAt.depth_of_shaped (eqOk_iff (c1 x' hx')).2
        show X.A.units + 1 + 1 + _ < cLine
        omega
      have old : ∀ (h' : Heap) (us : List Value), (∀ b o, s.heap.get? b = some o → h'.get? b = some o) → ∀ b o, s.heap.get? b = some o → (PySem.W.sortingHeap (h'.push (PyProof.Rows.seqObj "list" us.toArray 0)) h'.objs.size us).get? b = some o := fun h' us hk b o e =>
        PySem.W.sortingHeap_old (Nat.ne_of_lt (Heap.lt_size (hk b o e))) (Heap.get?_push_of_some _ (hk b o e))
      have er := fun (h' : Heap) (us : List Value) (hk : ∀ b o, s.heap.get? b = some o → h'.get? b = some o) => eachReads I s1 (old h' us hk) rv rr1 c1'
      let κ : Heap → List Value → PyProof.Rows.KeyKind := fun h' us => PySem.W.dataKind (PySem.W.sortingHeap (h'.push (PyProof.Rows.seqObj "list" us.toArray 0)) h'.objs.size us) (ys.map D.toP)
      refine sorted_raw (κ := κ) lo (I.ok.hd hcm) ⟨ob, ho, hx, hdat⟩ (by omega) (fun h' tk us hk hu' => ?_) (fun h' tk us hk hu' => ?_)
      · have hu2 := hu'.trans hk1
        subst hu2
        exact PySem.W.SortsAt.data (prog := X.prog) (w := X.w) (A := X.A.in1.in1) (er h' _ hk) hal hso hud
      · have hu2 := hu'.trans hk1
        subst hu2
        have e1 : PySem.W.EachIs (fun u d => ∃ x, RelV x u ∧ Rep G1 x d) (xs.map fun x => Value.ref x.2.1) ys := eachR rv rr1
        have e2 : PySem.W.EachIs (fun v (b : D) => (κ h' (xs.map fun x => Value.ref x.2.1)).keyOf v = some (PySem.W.keyToks b.toP)) (xs.map fun x => Value.ref x.2.1) ys :=
          eachMem (eachMap D.toP (er h' _ hk)) fun v b hb ⟨as, rd⟩ => PySem.W.dataKind_some hal (List.mem_map.mpr ⟨b, hb, rfl⟩) rd
        have e3 := PySem.W.sortVals_each (κ := κ h' (xs.map fun x => Value.ref x.2.1)) (rev := false) (fun b : D => PySem.W.keyToks b.toP) e1 e2
        obtain ⟨vs', rv', rr'⟩ := eachBack e3
        have hoL : (h'.push (PyProof.Rows.seqObj "list" (xs.map fun x => Value.ref x.2.1).toArray 0)).get? h'.objs.size = some (PyProof.Rows.seqObj "list" (xs.map fun x => Value.ref x.2.1).toArray 0) := Heap.get?_push_size _ rfl
        obtain ⟨ep', he'⟩ := PyProof.Rows.sortedHeap_at (vs := xs.map fun x => Value.ref x.2.1) (out := (PySem.W.sortVals (κ h' (xs.map fun x => Value.ref x.2.1)) false (xs.map fun x => Value.ref x.2.1) (xs.map fun x => Value.ref x.2.1)).toArray) hoL
        have I1 : Inv X pins σ H { s with heap := h', toks := tk } := I.kept hk
        have hp : H h'.objs.size = none := I1.hok.fresh (Nat.le_refl _)
        refine ⟨.ref _, upd H h'.objs.size (.lst vs'), I1.laid (t' := tk) (fun b u e => ?_) (Nat.le_refl _) ⟨?_, _, ep', rv', he'⟩, rfl, q _ _ _ (gr.trans (.new s1 hp)) (rep_lst (Same.free s1 hp) rr')⟩
        · have hb : b < h'.objs.size := Heap.lt_size e
          rw [PyProof.Rows.sortedHeap_old (Nat.ne_of_lt hb) (by rw [size_push']; exact Nat.lt_succ_of_lt hb)]
          exact Heap.get?_push_of_some _ e
        · rw [rr'.length, List.length_mergeSort]
          exact okLen_iff c4
    | _ => cases e
  | [.lst ys], rs, e =>
    obtain ⟨v, rfl, rv⟩ := one_of rs
    cases rv with
    | @lst a vs ds g rr =>
      simp only [bltD] at e
      split at e
      rotate_left
      · cases e
      rename_i c
      cases e
      unfold sortOk at c
      simp only [Bool.and_eq_true, List.all_eq_true, Bool.or_eq_true] at c
      obtain ⟨⟨⟨c1, c2⟩, c3⟩, c4⟩ := c
      have c1' : ys.all eqOk = true := List.all_eq_true.mpr c1
      obtain ⟨its, rv, hl, hz⟩ := I.list (.of (sb _ _ g))
      rw [Vals.ref1 r]
      have hk : ∀ b o, s.heap.get? b = some o → (PySem.W.sortingHeap (PySem.W.copyHeap s.heap its) (s.heap.objs.size + 1) its).get? b = some o := fun b o => PySem.W.sorting_copy_old
      have er := eachReads I sb hk rv rr c1'
      have hal : PySem.W.AllAlike (ys.map D.toP) := fun x hx y hy => by
        obtain ⟨x', hx', rfl⟩ := List.mem_map.mp hx
        obtain ⟨y', hy', rfl⟩ := List.mem_map.mp hy
        exact c2 x' hx' y' hy'
      have hso : PySem.W.Sortable (ys.map D.toP) := by
        rcases c3 with c3 | c3
        · refine .inl fun x hx => ?_
          obtain ⟨x', hx', rfl⟩ := List.mem_map.mp hx
          have := c3 x' hx'
          match x', this with
          | .tup (y :: r), _ => exact ⟨y.toP, D.toPs r, by simp only [D.toP, D.toPs]⟩
        · refine .inr fun x hx => ?_
          obtain ⟨x', hx', rfl⟩ := List.mem_map.mp hx
          have := c3 x' hx'
          cases x' <;> first
            | (constructor <;> simp [D.toP] <;> done)
            | cases this
      have hud : ∀ d, d ∈ ys.map D.toP → X.A.in1.in1.units + d.depth < cLine := fun x hx => by
        obtain ⟨x', hx', rfl⟩ := List.mem_map.mp hx
        have h1 := SeqAt.depth_of_shaped (eqOk_iff (c1 x' hx')).2
        show X.A.units + 1 + 1 + _ < cLine
        omega
      have S := PySem.W.SortsAt.data (prog := X.prog) (w := X.w) (A := X.A.in1.in1) (s := { s with heap := PySem.W.sortingHeap (PySem.W.copyHeap s.heap its) (s.heap.objs.size + 1) its }) er hal hso hud
      refine PySem.W.sorted_vals hl.isList S (by rw [← rv.length]; exact hz) ?_
      have e1 : PySem.W.EachIs (fun u d => ∃ x, RelV x u ∧ Rep G x d) its ys := eachR rv rr
      have e2 : PySem.W.EachIs (fun v (b : D) => (PySem.W.dataKind (PySem.W.sortingHeap (PySem.W.copyHeap s.heap its) (s.heap.objs.size + 1) its) (ys.map D.toP)).keyOf v = some (PySem.W.keyToks b.toP)) its ys :=
        eachMem (eachMap D.toP er) fun v b hb ⟨as, rd⟩ => PySem.W.dataKind_some hal (List.mem_map.mpr ⟨b, hb, rfl⟩) rd
      have e3 := PySem.W.sortVals_each (κ := PySem.W.dataKind (PySem.W.sortingHeap (PySem.W.copyHeap s.heap its) (s.heap.objs.size + 1) its) (ys.map D.toP)) (rev := false) (fun b : D => PySem.W.keyToks b.toP) e1 e2
      obtain ⟨vs', rv', rr'⟩ := eachBack e3
      obtain ⟨ep, he'⟩ := PyProof.Rows.sortedAll_at s.heap its (PySem.W.sortVals (PySem.W.dataKind (PySem.W.sortingHeap (PySem.W.copyHeap s.heap its) (s.heap.objs.size + 1) its) (ys.map D.toP)) false its its).toArray
      have hp : H (s.heap.objs.size + 1) = none := I.hok.fresh (Nat.le_succ _)
      refine ⟨.ref _, upd H (s.heap.objs.size + 1) (.lst vs'), I.laid (t' := s.toks) (fun _ _ => PyProof.Rows.sortedAll_old) (Nat.le_succ _) ⟨?_, _, ep, rv', he'⟩, rfl, q _ _ _ (.new sb hp) (rep_lst (Same.free sb hp) rr')⟩
      rw [rr'.length, List.length_mergeSort]
      exact okLen_iff c4
/-! ### the least and the greatest of a list of tuples -/
theorem readsAll_of {h : Heap} : ∀ {us : List Value} {ds : List PyData}, PySem.W.EachIs (fun v d => ∃ as, Reads h v d as) us ds → ∃ as, ReadsAll h us ds as
  | _, _, .nil => ⟨[], .nil⟩
  | _, _, .cons ⟨as, r⟩ t => let ⟨bs, q⟩ := readsAll_of t; ⟨as ++ bs, .cons r q⟩
theorem getD_toP (ys : List D) (i : Nat) : (ys.map D.toP).getD i PyData.none = (ys.getD i .non).toP := by
  rw [List.getD_eq_getElem?_getD, List.getD_eq_getElem?_getD, List.getElem?_map]
  cases ys[i]? with
  | none => rfl
  | some d => rfl
theorem depthAll_le : ∀ {ys : List D}, (∀ x ∈ ys, eqOk x = true) → PyData.depthAll (ys.map D.toP) ≤ 64
  | [], _ => by decide
  | y :: ys, h => by
    have h1 := SeqAt.depth_of_shaped (eqOk_iff (h y List.mem_cons_self)).2
    have h2 := depthAll_le (ys := ys) fun x hx => h x (List.mem_cons_of_mem _ hx)
    rw [List.map_cons, PyData.depthAll]
    exact Nat.max_le.mpr ⟨h1, h2⟩
theorem argBest_lt (bt : Nat → Nat → Bool) : ∀ k, argBest bt k ≤ k
  | 0 => Nat.le_refl _
  | k + 1 => by
    have := argBest_lt bt k
    rw [argBest]
    split <;> omega
theorem alike_of {ys : List D} (c2 : ∀ x ∈ ys, ∀ y ∈ ys, alikeD x y = true) (c3 : ∀ x ∈ ys, isTup1 x = true) : PySem.W.AlikeAll (ys.map D.toP) := by
  refine ⟨fun x hx y hy => ?_, fun x hx => ?_⟩
  · obtain ⟨x', hx', rfl⟩ := List.mem_map.mp hx
    obtain ⟨y', hy', rfl⟩ := List.mem_map.mp hy
    exact c2 x' hx' y' hy'
  · obtain ⟨x', hx', rfl⟩ := List.mem_map.mp hx
    have := c3 x' hx'
    match x', this with
    | .tup (y :: r), _ => simp only [D.toP]; exact fun z => nomatch z
theorem best_rep {G : Hp} {vs : List V} {its : List Value} {ys : List D} (rv : Vals vs its) (rr : Reps G vs ys) {k : Nat} {v : Value} (h : its[k]? = some v) : ∃ x, RelV x v ∧ Rep G x (ys.getD k .non) := by
  have hk : k < vs.length := by rw [rv.length]; exact (List.getElem?_eq_some_iff.mp h).1
  obtain ⟨u, h1, h2⟩ := rv.get (List.getElem?_eq_getElem hk)
  rw [h] at h1
  cases h1
  obtain ⟨d, h3, h4⟩ := rr.getV (List.getElem?_eq_getElem hk)
  refine ⟨_, h2, ?_⟩
  rw [List.getD_eq_getElem?_getD, h3]
  exact h4
theorem b_minT (hc : X.calm = true) (hu : X.A.units + 100 < cLine) : CallR X (.builtin "min") (rB (bltD .minT)) := by
  intro pins s σ H xs us Q I r h
  obtain ⟨G, ds, d, sb, rs, e, q⟩ := h
  match ds, rs, e with
  | [.lst ys], rs, e =>
    obtain ⟨v, rfl, rv⟩ := one_of rs
    cases rv with
    | @lst a vs ds g rr =>
      simp only [bltD] at e
      split at e
      rotate_left
      · cases e
      rename_i c
      cases e
      unfold mostOk at c
      simp only [Bool.and_eq_true, List.all_eq_true, Bool.not_eq_true'] at c
      obtain ⟨⟨⟨c0, c1⟩, c2⟩, c3⟩ := c
      obtain ⟨its, rv, hl, hz⟩ := I.list (.of (sb _ _ g))
      rw [Vals.ref1 r]
      obtain ⟨as, er⟩ := readsAll_of (eachReads I sb (fun _ _ e => e) rv rr (List.all_eq_true.mpr c1))
      have hlen : its.length = ys.length := by rw [← rv.length, rr.length]
      have hpos : 0 < ys.length := by
        cases ys with
        | nil => cases c0
        | cons _ _ => exact Nat.succ_pos _
      have hd := depthAll_le c1
      refine call_min_walkH (PySem.W.iter_listW (A := X.A.in1) (I.ok.hd hc) hl.isList fun s₂ e W st hfp hw hk => ?_)
      refine ⟨_, _, _, _, _, _, _, s.heap, _, rfl, W, st, hfp, by rw [List.size_toArray, hlen]; exact hpos, hw, hk, PySem.W.cmpIn_lt (A := X.A.in1) er (alike_of c2 c3) (by show X.A.units + 1 + _ < cLine; omega), fun v s' hP m => ?_⟩
      obtain ⟨h', tk, rfl, hk'⟩ := PySem.W.moved_old e rfl m
      rw [List.size_toArray, hlen] at hP
      simp only [getD_toP] at hP
      obtain ⟨x, r1, r2⟩ := best_rep rv rr (k := argBest (fun i j => ltD (ys.getD i .non) (ys.getD j .non)) (ys.length - 1)) (v := v) (by unfold ltD; simpa using hP)
      exact ⟨x, H, I.kept hk', r1, q x H G (.refl sb) r2⟩
theorem b_maxT (hc : X.calm = true) (hu : X.A.units + 100 < cLine) : CallR X (.builtin "max") (rB (bltD .maxT)) := by
  intro pins s σ H xs us Q I r h
  obtain ⟨G, ds, d, sb, rs, e, q⟩ := h
  match ds, rs, e with
  | [.lst ys], rs, e =>
    obtain ⟨v, rfl, rv⟩ := one_of rs
    cases rv with
    | @lst a vs ds g rr =>
      simp only [bltD] at e
      split at e
      rotate_left
      · cases e
      rename_i c
      cases e
      unfold mostOk at c
      simp only [Bool.and_eq_true, List.all_eq_true, Bool.not_eq_true'] at c
      obtain ⟨⟨⟨c0, c1⟩, c2⟩, c3⟩ := c
      obtain ⟨its, rv, hl, hz⟩ := I.list (.of (sb _ _ g))
      rw [Vals.ref1 r]
      obtain ⟨as, er⟩ := readsAll_of (eachReads I sb (fun _ _ e => e) rv rr (List.all_eq_true.mpr c1))
      have hlen : its.length = ys.length := by rw [← rv.length, rr.length]
      have hpos : 0 < ys.length := by
        cases ys with
        | nil => cases c0
        | cons _ _ => exact Nat.succ_pos _
      have hd := depthAll_le c1
      refine call_max_walkH (PySem.W.iter_listW (A := X.A.in1) (I.ok.hd hc) hl.isList fun s₂ e W st hfp hw hk => ?_)
      refine ⟨_, _, _, _, _, _, _, s.heap, _, rfl, W, st, hfp, by rw [List.size_toArray, hlen]; exact hpos, hw, hk, PySem.W.cmpIn_gt (A := X.A.in1) er (alike_of c2 c3) (by show X.A.units + 1 + _ < cLine; omega), fun v s' hP m => ?_⟩
      obtain ⟨h', tk, rfl, hk'⟩ := PySem.W.moved_old e rfl m
      rw [List.size_toArray, hlen] at hP
      simp only [getD_toP] at hP
      obtain ⟨x, r1, r2⟩ := best_rep rv rr (k := argBest (fun i j => ltD (ys.getD j .non) (ys.getD i .non)) (ys.length - 1)) (v := v) (by unfold ltD; simpa using hP)
      exact ⟨x, H, I.kept hk', r1, q x H G (.refl sb) r2⟩
/-! ### calls -/
variable {F : Orc} {ir : Option Nat} {pos p : Pos} {a : Expr} {es : List Expr} {ms : List E} {m : E}
theorem starEs {e : Expr} (h : notStar e = true) {es : List Expr} (hs : es.all notStar = true) (env : PySem.Env) (pos : Pos) : (backTo pos (starEach es env)).any (·.1) = false := by
  induction es with
  | nil => rfl
  | cons x xs ih =>
    rw [List.all_cons, Bool.and_eq_true] at hs
    rw [star_of hs.1]
    show (false || (backTo pos (starEach xs env)).any (·.1)) = false
    rw [ih hs.2]
    rfl
theorem rd_blt {b : Bi} {σ : St} {H : Hp} {Q : VK} (h : RE F X.K ir (.blt b ms) σ H Q) : tCB (rB (bltD b)) (RS F X.K ir ms) σ H Q := by
  obtain ⟨G, r, ρ, w, d, w', P, e, q⟩ := h
  simp only [ev, Option.bind_eq_some_iff, Option.map_eq_some_iff] at e
  obtain ⟨x, e1, y, e2, e3⟩ := e
  cases e3
  refine ⟨G, r, ρ, w, x.1, x.2, P, e1, fun vs H1 G1 x1 o1 r1 => ⟨G1, x.1, _, x1.s, r1, e2, fun v H' G' g' r' => q v H' G' (x1.trans g'.ext) (o1.grow g') r'⟩⟩
theorem rd_blt1 {σ : St} {H : Hp} {Q : VK} (h : R1 F X.K ir (.blt .list ms) σ H Q) : tCB (rB1 (bltD .list)) (RS F X.K ir ms) σ H Q := by
  obtain ⟨G, r, ρ, w, d, w', P, e, q⟩ := h
  simp only [ev, Option.bind_eq_some_iff, Option.map_eq_some_iff] at e
  obtain ⟨x, e1, y, e2, e3⟩ := e
  cases e3
  refine ⟨G, r, ρ, w, x.1, x.2, P, e1, fun vs H1 G1 x1 o1 r1 => ⟨G1, x.1, _, x1.s, r1, e2, fun p us hp ru => ?_⟩⟩
  have hp0 : H p = none := by
    cases z : H p with
    | none => rfl
    | some o => exact absurd hp (x1.m p (by rw [z]; exact fun z => nomatch z))
  have nG : G1 p = none := Same.free x1.s hp
  refine q p us _ G1 ⟨x1.g, fun b o e => ?_, fun b o n e => ?_, x1.n, fun b h => ?_⟩ ?_ hp0 nG upd_same ru
  · rw [upd_ne (fun z => by rw [z, nG] at e; cases e)]; exact x1.s _ _ e
  · rw [upd_ne (ne_of_none e hp0)]; exact x1.f b o n e
  · by_cases hb : b = p
    · subst hb; exact absurd hp0 h
    · rw [upd_ne hb]; exact x1.m b h
  · refine P.row.move (fun b o n e => by rw [upd_ne (ne_of_none e hp0)]; exact x1.f b o n e) o1 fun a s ns z => ?_
    subst z
    cases hw : x.2 with
    | none => rw [hw] at o1; exact o1.elim
    | some z =>
      rw [hw] at o1
      refine ⟨upd_ne (fun e => ?_), o1.2.1⟩
      rw [← e, o1.1] at hp; cases hp
theorem e_bltB {b : Bi} {x : Str} {id : String} (hc : CallR X (.builtin id) (rB (bltD b))) (hg : Gl X x) (hm : X.mg x = none) (hv : bootBuiltins x = some (.builtin id)) (hn : x ≠ "__name__") (hdb : (x == ("__debug__" : Str)) = false)
    (ha : PA X (a :: es) (RS F X.K ir ms)) (hs : notStar a = true) (hss : es.all notStar = true) : PE X (.Call (.Name x p) (a :: es) [] pos) (RE F X.K ir (.blt b ms)) :=
  PE.imp (pe_callB hc hg hm hv ha hn hdb (star_of hs es X.env) (starEs hs hss X.env pos)) fun σ H Q h => rd_blt h
theorem e_bltT {b : Bi} {x : Str} {T : String} (hc : CallR X (.type T) (rB (bltD b))) (hg : Gl X x) (hm : X.mg x = none) (hv : bootBuiltins x = some (.type T)) (hn : x ≠ "__name__") (hdb : (x == ("__debug__" : Str)) = false)
    (ha : PA X (a :: es) (RS F X.K ir ms)) (hs : notStar a = true) (hss : es.all notStar = true) : PE X (.Call (.Name x p) (a :: es) [] pos) (RE F X.K ir (.blt b ms)) :=
  PE.imp (pe_callTy hc hg hm hv ha hn hdb (star_of hs es X.env) (starEs hs hss X.env pos)) fun σ H Q h => rd_blt h
theorem e_list1 {x : Str} (hg : Gl X x) (hm : X.mg x = none) (hv : bootBuiltins x = some (.type "list")) (hn : x ≠ "__name__") (hdb : (x == ("__debug__" : Str)) = false)
    (ha : PA X (a :: es) (RS F X.K ir ms)) (hs : notStar a = true) (hss : es.all notStar = true) : PE X (.Call (.Name x p) (a :: es) [] pos) (R1 F X.K ir (.blt .list ms)) :=
  PE.imp (pe_callTy b_list1 hg hm hv ha hn hdb (star_of hs es X.env) (starEs hs hss X.env pos)) fun σ H Q h => rd_blt1 h
def Bi.name : Bi → Str
  | .len => "len" | .abs => "abs" | .min2 => "min" | .max2 => "max" | .minL => "min" | .maxL => "max" | .sum => "sum" | .tuple => "tuple" | .list => "list" | .sorted => "sorted" | .int => "int" | .all => "all" | .any => "any" | .minT => "min" | .maxT => "max"
theorem e_blt (b : Bi) (hcm : X.calm = true) (hu : X.A.units + 100 < cLine) (hg : Gl X b.name) (hm : X.mg b.name = none) (ha : PA X (a :: es) (RS F X.K ir ms)) (hs : notStar a = true) (hss : es.all notStar = true) :
    PE X (.Call (.Name b.name p) (a :: es) [] pos) (RE F X.K ir (.blt b ms)) := by
  cases b with
  | len => exact e_bltB b_len hg hm PySem.boot_len (by decide +kernel) (by decide +kernel) ha hs hss
  | abs => exact e_bltB b_abs hg hm (by decide +kernel) (by decide +kernel) (by decide +kernel) ha hs hss
  | min2 => exact e_bltB (b_min2 hcm) hg hm (by decide +kernel) (by decide +kernel) (by decide +kernel) ha hs hss
  | max2 => exact e_bltB (b_max2 hcm) hg hm (by decide +kernel) (by decide +kernel) (by decide +kernel) ha hs hss
  | minL => exact e_bltB (b_minL hcm (by omega)) hg hm (by decide +kernel) (by decide +kernel) (by decide +kernel) ha hs hss
  | maxL => exact e_bltB (b_maxL hcm (by omega)) hg hm (by decide +kernel) (by decide +kernel) (by decide +kernel) ha hs hss
  | sum => exact e_bltB (b_sum hcm) hg hm (by decide +kernel) (by decide +kernel) (by decide +kernel) ha hs hss
  | tuple => exact e_bltT b_tuple hg hm (by decide +kernel) (by decide +kernel) (by decide +kernel) ha hs hss
  | list => exact e_bltT b_list hg hm (by decide +kernel) (by decide +kernel) (by decide +kernel) ha hs hss
  | sorted => exact e_bltB (b_sorted hcm hu) hg hm (by decide +kernel) (by decide +kernel) (by decide +kernel) ha hs hss
  | int => exact e_bltT b_int hg hm (by decide +kernel) (by decide +kernel) (by decide +kernel) ha hs hss
  | minT => exact e_bltB (b_minT hcm hu) hg hm (by decide +kernel) (by decide +kernel) (by decide +kernel) ha hs hss
  | maxT => exact e_bltB (b_maxT hcm hu) hg hm (by decide +kernel) (by decide +kernel) (by decide +kernel) ha hs hss
  | all => exact e_bltB (b_all hcm) hg hm (by decide +kernel) (by decide +kernel) (by decide +kernel) ha hs hss
  | any => exact e_bltB (b_any hcm) hg hm (by decide +kernel) (by decide +kernel) (by decide +kernel) ha hs hss

/-! ### isinstance -/
def Ty.name : Ty → Str
  | .int => "int" | .bool => "bool" | .tuple => "tuple" | .list => "list" | .str => "str"
def Ty.nm : Ty → String
  | .int => "int" | .bool => "bool" | .tuple => "tuple" | .list => "list" | .str => "str"
theorem Ty.boot (t : Ty) : bootBuiltins t.name = some (.type t.nm) := by cases t <;> decide +kernel
theorem Ty.dbg (t : Ty) : (t.name == ("__debug__" : Str)) = false := by cases t <;> decide +kernel
theorem Ty.nn (t : Ty) : t.name ≠ ("__name__" : Str) := by cases t <;> decide +kernel
inductive KD where
  | non | bl | int | str | tup | lst | dic
def KD.nm : KD → String
  | .non => "NoneType" | .bl => "bool" | .int => "int" | .str => "str" | .tup => "tuple" | .lst => "list" | .dic => "dict"
def kindD : D → KD
  | .non => .non | .bl _ => .bl | .int _ => .int | .str _ => .str | .tup _ => .tup | .lst _ => .lst | .dK _ => .dic | .dT _ => .dic
def isiK : KD → Ty → Bool
  | .int, .int => true
  | .bl, .int => true
  | .bl, .bool => true
  | .tup, .tuple => true
  | .lst, .list => true
  | .str, .str => true
  | _, _ => false
theorem kitB_K (k : KD) (t : Ty) : kitB k.nm t.nm = some (isiK k t) := by cases k <;> cases t <;> decide +kernel
theorem isiD_K (d : D) (t : Ty) : isiD d t = isiK (kindD d) t := by cases d <;> cases t <;> rfl
abbrev typeD (d : D) : String := (kindD d).nm
theorem tyX_of {K : PySem.W.Frag} {G H : Hp} (sb : Same G H) {v : V} {d : D} (r : Rep G v d) : TyX K H v (.type (typeD d)) := by
  cases r with
  | non => exact .base .non
  | bl b => exact .base (.bl b)
  | int i => exact .base (.int i)
  | str z => exact .base (.str z)
  | tup g _ => exact .base (.tup (sb _ _ g))
  | lst g _ => exact .base (.lst (sb _ _ g))
  | dK g _ _ => exact .base (.dK (sb _ _ g))
  | dT g _ _ => exact .base (.dT (sb _ _ g))
theorem kit_D {K : PySem.W.Frag} (d : D) (t : Ty) : PySem.W.kitOne K (.type (typeD d)) (.type t.nm) = some (isiD d t) := by
  rw [isiD_K]
  exact kit_ty (kitB_K _ _)
theorem e_isi {t : Ty} {p2 : Pos} (hg : Gl X "isinstance") (hm : X.mg "isinstance" = none) (hg2 : Gl X t.name) (hm2 : X.mg t.name = none) (ha : PE X a (RE F X.K ir m)) (hs : notStar a = true) :
    PE X (.Call (.Name "isinstance" p) [a, .Name t.name p2] [] pos) (RE F X.K ir (.isi m t)) := by
  refine PE.imp (pe_callB call_isi hg hm (by decide +kernel) (pa_cons ha (pa_cons (pe_bltn (v := .ty t.nm) hg2 hm2 t.boot rfl t.nn t.dbg) pa_nil) (star_of hs _ X.env)) (by decide +kernel) (by decide +kernel) (star_of hs _ X.env) (starEs hs (by rfl) X.env pos)) fun σ H Q h => ?_
  obtain ⟨G, r, ρ, w, d, w', P, e, q⟩ := h
  simp only [ev, Option.bind_eq_some_iff] at e
  obtain ⟨x, e1, e2⟩ := e
  cases e2
  refine ⟨G, r, ρ, w, x.1, x.2, P, e1, fun v1 H1 G1 x1 o1 r1 => ?_⟩
  exact ⟨v1, .ty t.nm, _, _, isiD x.1 t, rfl, .ty _, tyX_of x1.s r1, kit_D _ _, q _ H1 G1 x1 o1 (.bl _)⟩
theorem e_isi2 {t u : Ty} {p2 p3 p4 : Pos} {k : Nat} (hg : Gl X "isinstance") (hm : X.mg "isinstance" = none) (hg2 : Gl X t.name) (hm2 : X.mg t.name = none) (hg3 : Gl X u.name) (hm3 : X.mg u.name = none) (ha : PE X a (RE F X.K ir m)) (hs : notStar a = true) :
    PE X (.Call (.Name "isinstance" p) [a, .Tuple [.Name t.name p2, .Name u.name p3] k p4] [] pos) (RE F X.K ir (.isi2 m t u)) := by
  refine PE.imp (pe_callB call_isiT hg hm (by decide +kernel) (pa_cons ha (pa_cons (pe_tup (pa_cons (pe_bltn (v := .ty t.nm) hg2 hm2 t.boot rfl t.nn t.dbg) (pa_cons (pe_bltn (v := .ty u.nm) hg3 hm3 u.boot rfl u.nn u.dbg) pa_nil))) pa_nil) (star_of hs _ X.env)) (by decide +kernel) (by decide +kernel) (star_of hs _ X.env) (starEs hs (by rfl) X.env pos)) fun σ H Q h => ?_
  obtain ⟨G, r, ρ, w, d, w', P, e, q⟩ := h
  simp only [ev, Option.bind_eq_some_iff] at e
  obtain ⟨x, e1, e2⟩ := e
  cases e2
  refine ⟨G, r, ρ, w, x.1, x.2, P, e1, fun v1 H1 G1 x1 o1 r1 => ⟨by show 2 ≤ sizeLine; decide, fun tp htp => ?_⟩⟩
  have g := Grow.new (o := .tup [.ty t.nm, .ty u.nm]) x1.s htp
  refine ⟨v1, tp, _, _, [.type t.nm, .type u.nm], isiD x.1 t || isiD x.1 u, rfl, upd_same, .cons (.ty _) (.cons (.ty _) .nil), tyX_of (fun b o e => g.s b o (g.g b o e)) r1, ?_, q _ _ _ (x1.trans g.ext) (o1.grow g) (.bl _)⟩
  refine kitAny_cons (kit_D _ _) (fun h => ?_) fun h => by rw [h]; rfl
  rw [h, Bool.false_or]
  exact kitAny_cons (kit_D _ _) (fun h => by rw [h]; exact kitAny_nil) fun h => h

/-! ### the draw list -/
theorem Pre.rowD {K : PySem.W.Frag} {σ : St} {H G : Hp} {r : RA} {ρ : Env} {w : W} (P : Pre K ir σ H G r ρ (some w)) : ∃ a s i, r = some (a, s, w.ns) ∧ ir = some i ∧ σ[i]? = some (some (.ref a)) ∧
    H a = some (.lst [.ref s, .int w.a, .int w.b, .int w.c]) ∧ SqL K H s (w.ns.map V.int) := by
  have := P.row
  cases hr : r with
  | none => rw [hr] at this; exact this.elim
  | some t =>
    obtain ⟨a, s, ns⟩ := t
    rw [hr] at this
    obtain ⟨h1, h2, h3, h4⟩ := this
    obtain ⟨i, h5, h6⟩ := P.rowv a s ns hr
    exact ⟨a, s, i, by rw [h3], h5, h6, h1, by rw [h3]; exact h4⟩
variable {i : Nat} {x : Str} {p2 p3 : Pos} {j : Nat}
theorem e_rowGet {k : Nat} (hN : X.N[i]? = some x) (hv : Vis X.env.scope x) (hd : (x == ("__debug__" : Str)) = false) (hcd : (x == ("__classdict__" : Str)) = false) : PE X (.Subscript (.Name x p) (.Constant (.int (k : Int)) j p2) pos) (RE F X.K (some i) (.rowGet k)) := by
  refine PE.imp (pe_ix ix_list (pe_var hN hv hd hcd) pe_int (fun _ _ => rfl)) fun σ H Q h => ?_
  obtain ⟨G, r, ρ, w, d, w', P, e, q⟩ := h
  simp only [ev, Option.bind_eq_some_iff, Option.map_eq_some_iff] at e
  obtain ⟨z, rfl, y, e2, e3⟩ := e
  cases e3
  obtain ⟨a, s, i', rfl, hi, hσ, hH, hs⟩ := P.rowD
  cases hi
  match k, e2 with
  | 1, e2 => cases e2; exact ⟨.ref a, hσ, a, _, 1, .int z.a, rfl, rfl, .of hH, rfl, q _ H G (.refl P.sub) P.row (.int _)⟩
  | 2, e2 => cases e2; exact ⟨.ref a, hσ, a, _, 2, .int z.b, rfl, rfl, .of hH, rfl, q _ H G (.refl P.sub) P.row (.int _)⟩
  | 3, e2 => cases e2; exact ⟨.ref a, hσ, a, _, 3, .int z.c, rfl, rfl, .of hH, rfl, q _ H G (.refl P.sub) P.row (.int _)⟩
theorem e_rowLen {pos2 : Pos} (hN : X.N[i]? = some x) (hv : Vis X.env.scope x) (hd : (x == ("__debug__" : Str)) = false) (hcd : (x == ("__classdict__" : Str)) = false) (hg : Gl X "len") (hm : X.mg "len" = none) :
    PE X (.Call (.Name "len" p3) [.Subscript (.Name x p) (.Constant (.int 0) j p2) pos2] [] pos) (RE F X.K (some i) .rowLen) := by
  refine PE.imp (pe_callB call_len_seq hg hm PySem.boot_len (pa_cons (pe_ix ix_list (pe_var hN hv hd hcd) pe_int (fun _ _ => rfl)) pa_nil)) fun σ H Q h => ?_
  obtain ⟨G, r, ρ, w, d, w', P, e, q⟩ := h
  simp only [ev, Option.map_eq_some_iff] at e
  obtain ⟨z, rfl, e2⟩ := e
  cases e2
  obtain ⟨a, s, i', rfl, hi, hσ, hH, hs⟩ := P.rowD
  cases hi
  refine ⟨.ref a, hσ, a, _, 0, .ref s, rfl, rfl, .of hH, rfl, s, _, rfl, .inl hs, ?_⟩
  rw [List.length_map]
  exact q _ H G (.refl P.sub) P.row (.int _)
theorem e_rowCell {pos2 : Pos} (hN : X.N[i]? = some x) (hv : Vis X.env.scope x) (hd : (x == ("__debug__" : Str)) = false) (hcd : (x == ("__classdict__" : Str)) = false) (ha : PE X a (RE F X.K (some i) m)) (hs : notSlice a = true) :
    PE X (.Subscript (.Subscript (.Name x p) (.Constant (.int 0) j p2) pos) a pos2) (RE F X.K (some i) (.rowCell m)) := by
  refine PE.imp (pe_ix ix_list (pe_ix ix_list (pe_var hN hv hd hcd) pe_int (fun _ _ => rfl)) ha (plainIx_of hs)) fun σ H Q h => ?_
  obtain ⟨G, r, ρ, w, d, w', P, e, q⟩ := h
  simp only [ev, Option.bind_eq_some_iff, Option.map_eq_some_iff] at e
  obtain ⟨z0, rfl, ⟨y, w1⟩, e1, z, rfl, u, e2, e3⟩ := e
  cases e3
  obtain ⟨a', s, i', rfl, hi, hσ, hH, hs0⟩ := P.rowD
  cases hi
  refine ⟨.ref a', hσ, a', _, 0, .ref s, rfl, rfl, .of hH, rfl, ?_⟩
  refine ⟨G, _, ρ, _, y, _, P, e1, fun v1 H1 G1 x1 o1 r1 => ?_⟩
  obtain ⟨h1, h2, h3, h4⟩ := o1
  cases y <;> first
    | (simp only [cellAt, Option.map_eq_some_iff] at e2
       obtain ⟨c, e4, rfl⟩ := e2
       cases r1
       refine ⟨s, _, _, .int c, rfl, rfl, h4, ?_, q _ H1 G1 x1 ⟨h1, h2, h3, h4⟩ (.int _)⟩
       rw [h3] at e4
       unfold atI at e4 ⊢
       rw [List.length_map]
       cases qi : ixN z0.ns.length _ with
       | none => rw [qi] at e4; cases e4
       | some jj =>
         rw [qi] at e4
         show (z0.ns.map V.int)[jj]? = _
         rw [List.getElem?_map, show z0.ns[jj]? = some c from e4]
         rfl)
    | cases e2

/-! ### defs -/
def preR : Bool → RA → List V
  | true, some (a, _, _) => [.ref a]
  | _, _ => []
/-- what a def promises: the interpreter's answer -/
def spF (F : Orc) (K : PySem.W.Frag) (x : Str) (rw : Bool) (n : Nat) : Sp := fun vs H Q _ => ∃ (G : Hp) (r : RA) (us : List V) (ds : List D) (w : Option W) (d : D) (w' : Option W), vs = preR rw r ++ us ∧ us.length = n ∧ rw = r.isSome ∧ Same G H ∧ RowOk K r H G w ∧ Reps G us ds ∧
  F x rw ds w = some (d, w') ∧ ∀ v H' G', Ext r H G H' G' → RowOk K r H' G' w' → Rep G' v d → Q v H'
theorem evs_len (F : Orc) : ∀ (ms : List E) (ρ : Env) (w w' : Option W) (ds : List D), evs F ms ρ w = some (ds, w') → ds.length = ms.length
  | [], _, _, _, _, e => by simp only [evs] at e; cases e; rfl
  | m :: ms, ρ, w, w', ds, e => by
    simp only [evs, Option.bind_eq_some_iff, Option.map_eq_some_iff] at e
    obtain ⟨x, e1, y, e2, e3⟩ := e
    cases e3
    rw [List.length_cons, List.length_cons, evs_len F ms _ _ _ _ e2]
variable {k : Nat} {f : Addr} {fd : FuncData} {ps : List Str}
theorem e_call {n : Nat} (G : FnOk X.prog X.w X.K X.mg X.base CX0 k f fd ps (spF F X.K x false n)) (hr : Room k X.A) (hg : Gl X x) (hm : X.mg x = some (.ref f)) (hk : PySem.W.keepIn X.K (.ref f) = true) (hb : Binds X.K fd ps [])
    (hdb : (x == ("__debug__" : Str)) = false) (hn : ms.length = n) (ha : PA X (a :: es) (RS F X.K ir ms)) (hs : notStar a = true) (hss : es.all notStar = true) : PE X (.Call (.Name x p) (a :: es) [] pos) (RE F X.K ir (.call x ms)) := by
  refine PE.imp (pe_call G hr hg hm hk hb .nil pass0 ha hdb (star_of hs es X.env) (starEs hs hss X.env pos)) fun σ H Q h => ?_
  obtain ⟨G, r, ρ, w, d, w', P, e, q⟩ := h
  simp only [ev, Option.bind_eq_some_iff] at e
  obtain ⟨⟨ds, w1⟩, e1, ⟨d', w2⟩, e2, e3⟩ := e
  cases e3
  refine ⟨G, r, ρ, w, ds, _, P, e1, fun vs H1 G1 x1 o1 r1 => ?_⟩
  refine ⟨G1, none, vs, ds, none, d', w2, by simp [preR], by rw [r1.length, evs_len F _ _ _ _ _ e1, hn], rfl, x1.s, trivial, r1, e2, fun v H' G' x2 _ r2 => ?_⟩
  exact q v H' G' (x1.trans x2.grow.ext) (o1.grow x2.grow) r2
theorem e_callR {n : Nat} {xr : Str} {pr : Pos} (G : FnOk X.prog X.w X.K X.mg X.base CX0 k f fd ps (spF F X.K x true n)) (hr : Room k X.A) (hg : Gl X x) (hm : X.mg x = some (.ref f)) (hk : PySem.W.keepIn X.K (.ref f) = true) (hb : Binds X.K fd ps [])
    (hdb : (x == ("__debug__" : Str)) = false) (hn : ms.length = n) (hN : X.N[i]? = some xr) (hv : Vis X.env.scope xr) (hd : (xr == ("__debug__" : Str)) = false) (hcd : (xr == ("__classdict__" : Str)) = false)
    (ha : PA X es (RS F X.K (some i) ms)) (hss : es.all notStar = true) : PE X (.Call (.Name x p) (.Name xr pr :: es) [] pos) (RE F X.K (some i) (.callR x ms)) := by
  refine PE.imp (pe_call G hr hg hm hk hb .nil pass0 (pa_cons (pe_var hN hv hd hcd) ha) hdb rfl (starEs (e := .Name xr pr) rfl hss X.env pos)) fun σ H Q h => ?_
  obtain ⟨G, r, ρ, w, d, w', P, e, q⟩ := h
  simp only [ev, Option.bind_eq_some_iff] at e
  obtain ⟨z0, rfl, ⟨ds, w1⟩, e1, e2⟩ := e
  obtain ⟨a, s, i', rfl, hi, hσ, hH, hs0⟩ := P.rowD
  cases hi
  refine ⟨.ref a, hσ, G, _, ρ, _, ds, w1, P, e1, fun vs H1 G1 x1 o1 r1 => ?_⟩
  cases w1 with
  | none => exact o1.elim
  | some z =>
    refine ⟨G1, some (a, s, z0.ns), vs, ds, some z, d, w', by simp [preR], by rw [r1.length, evs_len F _ _ _ _ _ e1, hn], rfl, x1.s, o1, r1, e2, fun v H' G' x2 o2 r2 => ?_⟩
    exact q v H' G' (x1.trans x2) o2 r2
end
end Lt

set_option Elab.async false
set_option linter.all false
set_option maxRecDepth 100000
set_option maxHeartbeats 1000000
/-! LtFb: further operators: x[::-1], list(range(..)), tuple(range(..)), gcd. -/
namespace Lt
open PySem PySem.Spec PyProof.Rows L2
theorem re_mono {F : Orc} {K : PySem.W.Frag} {ir : Option Nat} {a : E} {σ : St} {H : Hp} {Q Q' : VK} (h : RE F K ir a σ H Q) (f : ∀ v H1, Q v H1 → Q' v H1) : RE F K ir a σ H Q' := by
  obtain ⟨G, r, ρ, w, d, w', P, e, q⟩ := h
  exact ⟨G, r, ρ, w, d, w', P, e, fun v H1 G1 x1 o1 r1 => f _ _ (q v H1 G1 x1 o1 r1)⟩
theorem rs_mono {F : Orc} {K : PySem.W.Frag} {ir : Option Nat} {a : List E} {σ : St} {H : Hp} {Q Q' : List V → Hp → Prop} (h : RS F K ir a σ H Q) (f : ∀ v H1, Q v H1 → Q' v H1) : RS F K ir a σ H Q' := by
  obtain ⟨G, r, ρ, w, d, w', P, e, q⟩ := h
  exact ⟨G, r, ρ, w, d, w', P, e, fun v H1 G1 x1 o1 r1 => f _ _ (q v H1 G1 x1 o1 r1)⟩
/-- the reading of an operator of one, of two -/
theorem rd_x1 {F : Orc} {K : PySem.W.Frag} {ir : Option Nat} {o : X1} {a : E} {σ : St} {H : Hp} {Q : VK} (h : RE F K ir (.x1 o a) σ H Q) :
    RE F K ir a σ H fun v H1 => ∃ G x d, Same G H1 ∧ Rep G v x ∧ x1D o x = some d ∧ ∀ z H' G', Grow H1 G H' G' → Rep G' z d → Q z H' := by
  obtain ⟨G, r, ρ, w, d, w', P, e, q⟩ := h
  simp only [ev, Option.bind_eq_some_iff, Option.map_eq_some_iff] at e
  obtain ⟨x, e1, y, e2, e3⟩ := e
  cases e3
  exact ⟨G, r, ρ, w, x.1, x.2, P, e1, fun v H1 G1 x1 o1 r1 => ⟨G1, x.1, d, x1.s, r1, e2, fun z H' G' g' r' => q z H' G' (x1.trans g'.ext) (o1.grow g') r'⟩⟩
theorem rd_x2 {F : Orc} {K : PySem.W.Frag} {ir : Option Nat} {o : X2} {a b : E} {σ : St} {H : Hp} {Q : VK} (h : RE F K ir (.x2 o a b) σ H Q) :
    RE F K ir a σ H fun v H1 => RE F K ir b σ H1 fun u H2 => ∃ G x y d, Same G H2 ∧ Rep G v x ∧ Rep G u y ∧ x2D o x y = some d ∧ ∀ z H' G', Grow H2 G H' G' → Rep G' z d → Q z H' := by
  obtain ⟨G, r, ρ, w, d, w', P, e, q⟩ := h
  simp only [ev, Option.bind_eq_some_iff, Option.map_eq_some_iff] at e
  obtain ⟨x, e1, y, e2, z, e3, e4⟩ := e
  cases e4
  refine ⟨G, r, ρ, w, x.1, x.2, P, e1, fun v1 H1 G1 x1 o1 r1 => ⟨G1, r, ρ, x.2, y.1, y.2, P.next x1 o1, e2, fun v2 H2 G2 x2 o2 r2 => ?_⟩⟩
  exact ⟨G2, x.1, y.1, d, x2.s, r1.mono x2.g, r2, e3, fun v H' G' g' r' => q v H' G' ((x1.trans x2).trans g'.ext) (o2.grow g') r'⟩
theorem rs_x2 {F : Orc} {K : PySem.W.Frag} {ir : Option Nat} {o : X2} {a b : E} {σ : St} {H : Hp} {Q : VK} (h : RE F K ir (.x2 o a b) σ H Q) :
    RS F K ir [a, b] σ H fun vs H2 => ∃ G x y d, Same G H2 ∧ Reps G vs [x, y] ∧ x2D o x y = some d ∧ ∀ z H' G', Grow H2 G H' G' → Rep G' z d → Q z H' := by
  obtain ⟨G, r, ρ, w, d, w', P, e, q⟩ := h
  simp only [ev, Option.bind_eq_some_iff, Option.map_eq_some_iff] at e
  obtain ⟨x, e1, y, e2, z, e3, e4⟩ := e
  cases e4
  exact ⟨G, r, ρ, w, [x.1, y.1], y.2, P, by simp only [evs, e1, e2, Option.bind_some, Option.map_some], fun vs H2 G2 x2 o2 r2 => ⟨G2, x.1, y.1, d, x2.s, r2, e3, fun v H' G' g' r' => q v H' G' (x2.trans g'.ext) (o2.grow g') r'⟩⟩
theorem reps_rg {G : Hp} (a : Int) : ∀ n : Nat, Reps G ((List.range n).map fun i => V.int (a + (i : Nat))) ((List.range n).map fun (k : Nat) => D.int (a + (k : Int)))
  | 0 => .nil
  | n + 1 => by
    rw [List.range_succ, List.map_append, List.map_append]
    exact (reps_rg a n).append (.one (.int _))
section
variable {X : Cx} {F : Orc} {ir : Option Nat} {pos pos2 p p2 : Pos} {a b : Expr} {ma mb : E}
theorem e_revL {k : Nat} {p1 p2 p3 pos : Pos} (he : PE X a (RE F X.K ir ma)) : PE X (.Subscript a (.Slice none none (some (.UnaryOp .USub (.Constant (.int 1) k p1) p2)) p3) pos) (RE F X.K ir (.x1 .revL ma)) := by
  refine PE.imp (pe_revL he) fun σ H Q h => ?_
  refine re_mono (rd_x1 h) fun v H1 h => ?_
  obtain ⟨G, x, d, sb, rp, e, q⟩ := h
  cases rp with
  | @lst l vs ds g rs => cases e; exact ⟨l, vs, rfl, .of (sb _ _ g), fun p hp => q _ _ _ (.new sb hp) (rep_lst (Same.free sb hp) rs.reverse)⟩
  | _ => cases e
theorem e_lrng (hc : X.calm = true) (hg : Gl X "list") (hm : X.mg "list" = none) (hg2 : Gl X "range") (hm2 : X.mg "range" = none) (ha : PE X a (RE F X.K ir ma)) (hs : notStar a = true) :
    PE X (.Call (.Name "list" p) [.Call (.Name "range" p2) [a] [] pos2] [] pos) (RE F X.K ir (.x1 .lrng ma)) := by
  refine PE.imp (pe_listRg hc hg hm (prg_1 hg2 hm2 ha (star_of hs [] X.env))) fun σ H Q h => ?_
  refine re_mono (rd_x1 h) fun v H1 h => ?_
  obtain ⟨G, x, d, sb, rp, e, q⟩ := h
  cases rp with
  | int n =>
    simp only [x1D] at e
    split at e
    · rename_i c
      rw [Bool.and_eq_true, decide_eq_true_eq, decide_eq_true_eq] at c
      cases e
      refine ⟨n, rfl, ⟨by omega, by omega, by omega, by omega, by omega⟩, fun l hl => q _ _ _ (.new sb hl) (rep_lst (Same.free sb hl) ?_)⟩
      have := reps_rg (G := G) 0 n.toNat
      unfold rgV
      rw [Int.sub_zero]
      exact this
    · cases e
  | _ => cases e
theorem e_trng (hc : X.calm = true) (hg : Gl X "tuple") (hm : X.mg "tuple" = none) (hg2 : Gl X "range") (hm2 : X.mg "range" = none) (ha : PE X a (RE F X.K ir ma)) (hs : notStar a = true) :
    PE X (.Call (.Name "tuple" p) [.Call (.Name "range" p2) [a] [] pos2] [] pos) (RE F X.K ir (.x1 .trng ma)) := by
  refine PE.imp (pe_tupRg hc hg hm (prg_1 hg2 hm2 ha (star_of hs [] X.env))) fun σ H Q h => ?_
  refine re_mono (rd_x1 h) fun v H1 h => ?_
  obtain ⟨G, x, d, sb, rp, e, q⟩ := h
  cases rp with
  | int n =>
    simp only [x1D] at e
    split at e
    · rename_i c
      rw [Bool.and_eq_true, decide_eq_true_eq, decide_eq_true_eq] at c
      cases e
      refine ⟨n, rfl, ⟨by omega, by omega, by omega, by omega, by omega⟩, fun l hl => q _ _ _ (.new sb hl) (rep_tup (Same.free sb hl) ?_)⟩
      have := reps_rg (G := G) 0 n.toNat
      unfold rgV
      rw [Int.sub_zero]
      exact this
    · cases e
  | _ => cases e
theorem e_lrng2 (hc : X.calm = true) (hg : Gl X "list") (hm : X.mg "list" = none) (hg2 : Gl X "range") (hm2 : X.mg "range" = none) (ha : PE X a (RE F X.K ir ma)) (hb : PE X b (RE F X.K ir mb)) (hs : notStar a = true) (hs2 : notStar b = true) :
    PE X (.Call (.Name "list" p) [.Call (.Name "range" p2) [a, b] [] pos2] [] pos) (RE F X.K ir (.x2 .lrng ma mb)) := by
  refine PE.imp (pe_listRg hc hg hm (prg_2 hg2 hm2 ha hb (star_of hs [b] X.env) (star_of hs2 [] X.env) (by rw [star_of hs2]; rfl))) fun σ H Q h => ?_
  refine re_mono (rd_x2 h) fun v H1 h => re_mono h fun u H2 h => ?_
  obtain ⟨G, x, y, d, sb, rp, rq, e, q⟩ := h
  cases rp with
  | int i => cases rq with
    | int j =>
      simp only [x2D] at e
      split at e
      · rename_i c
        simp only [Bool.and_eq_true, decide_eq_true_eq] at c
        cases e
        exact ⟨i, j, rfl, rfl, ⟨by omega, by omega, by omega, by omega, by omega⟩, fun l hl => q _ _ _ (.new sb hl) (rep_lst (Same.free sb hl) (reps_rg (G := G) i (j - i).toNat))⟩
      · cases e
    | _ => cases e
  | _ => cases e
theorem e_gcd (hg : Gl X "gcd") (hm : X.mg "gcd" = some (.builtin "math.gcd")) (ha : PA X [a, b] (RS F X.K ir [ma, mb])) (hs : notStar a = true) (hs2 : notStar b = true) :
    PE X (.Call (.Name "gcd" p) [a, b] [] pos) (RE F X.K ir (.x2 .gcd ma mb)) := by
  refine PE.imp (pe_callBfun cr_gcd hg hm ha (by decide +kernel) (star_of hs [b] X.env) (by rw [star_of hs2]; rfl)) fun σ H Q h => ?_
  refine rs_mono (rs_x2 h) fun vs H2 h => ?_
  obtain ⟨G, x, y, d, sb, rp, e, q⟩ := h
  obtain ⟨v, u, rfl, r1, r2⟩ := two_of rp
  cases r1 with
  | int i => cases r2 with
    | int j => cases e; exact ⟨i, j, rfl, q _ H2 G (.refl sb) (.int _)⟩
    | _ => cases e
  | _ => cases e
end
end Lt

set_option Elab.async false
set_option linter.all false
set_option maxRecDepth 100000
set_option maxHeartbeats 8000000
/-! LtG: the small syntax matches the program's; expressions are sound. -/
namespace Lt
open PySem PySem.Spec PyProof.Rows L2

structure Tbl where
  fr : List Str
  gl : List (Str × Int)
  fs : List (Str × Bool × Nat)
  gc : Bool := false
structure Cs where
  N : List Str
  sc : Scope
  fn : Str → Bool
  ir : Option Nat
def blkS (S : Cs) (scope : Scope) : Cs := { N := S.N, sc := relS scope S.sc, fn := fun x => scope.names.lookup x == some .cell, ir := S.ir }
def okN (x : Str) : Bool := !(x == ("__debug__" : Str)) && !(x == ("__classdict__" : Str))
def visB (S : Cs) (x : Str) : Bool := match S.sc.names.lookup x with | some .local => true | some .cell => true | some .free => true | _ => false
def locB (S : Cs) (x : Str) : Bool := match S.sc.names.lookup x with | some .local => true | some .cell => S.fn x | _ => false
def glB (S : Cs) (x : Str) : Bool := decide (S.sc.names.lookup x = some .globalImplicit)
def frB (T : Tbl) (S : Cs) (x : Str) : Bool := glB S x && decide (x ∈ T.fr)
def nmB (S : Cs) (i : Nat) (x : Str) : Bool := decide (S.N[i]? = some x) && visB S x && okN x
def noIf : Expr → Bool
  | .IfExp _ _ _ _ => false
  | _ => true
def isAO : E → Bool
  | .and _ _ => true
  | .or _ _ => true
  | .never => true
  | _ => false
mutual
def chkG (S : Cs) : Tg → Expr → Bool
  | .n i, e => (match e with | .Name x _ => decide (S.N[i]? = some x) && locB S x | _ => false)
  | .t ts, e => (match e with | .Tuple es _ _ => chkGs S ts es | _ => false)
def chkGs (S : Cs) : List Tg → List Expr → Bool
  | [], es => es.isEmpty
  | t :: ts, es => (match es with | e :: es => chkG S t e && notStar e && chkGs S ts es | [] => false)
end
/-- what is walked -/
def chkI (T : Tbl) (S : Cs) (chk : List Expr → Bool) : IK → Expr → Expr → Bool
  | .plain, _, ie => chk [ie]
  | .range, _, ie => (match ie with | .Call (.Name x _) es [] _ => decide (x = ("range" : Str)) && frB T S "range" && chk es && decide (es.length = 1 ∨ es.length = 2) | _ => false)
  | .enum, te, ie => (match te, ie with | .Tuple _ _ _, .Call (.Name x _) [a] [] _ => decide (x = ("enumerate" : Str)) && frB T S "enumerate" && chk [a] | _, _ => false)
  | .zipN, te, ie => (match te, ie with | .Name _ _, .Call (.Name x _) [a, b] [] _ => decide (x = ("zip" : Str)) && frB T S "zip" && chk [a, b] | _, _ => false)
  | .down, _, ie => (match ie with | .Call (.Name x _) [a, b, c] [] _ => decide (x = ("range" : Str)) && frB T S "range" && chk [a, b, c] | _ => false)
  | .zip, te, ie => (match te, ie with | .Tuple _ _ _, .Call (.Name x _) [a, b] [] _ => decide (x = ("zip" : Str)) && frB T S "zip" && chk [a, b] | _, _ => false)
/-- the shapes of further operators -/
def shp1 (T : Tbl) (S : Cs) : X1 → Expr → Option Expr
  | .revL, e => (match e with | .Subscript ea (.Slice none none (some (.UnaryOp .USub (.Constant (.int 1) _ _) _)) _) _ => some ea | _ => none)
  | .lrng, e => (match e with | .Call (.Name x _) [.Call (.Name y _) [a] [] _] [] _ => if decide (x = ("list" : Str)) && frB T S "list" && decide (y = ("range" : Str)) && frB T S "range" && notStar a then some a else none | _ => none)
  | .trng, e => (match e with | .Call (.Name x _) [.Call (.Name y _) [a] [] _] [] _ => if decide (x = ("tuple" : Str)) && frB T S "tuple" && decide (y = ("range" : Str)) && frB T S "range" && notStar a then some a else none | _ => none)
  | .revT, _ => none
def shp2 (T : Tbl) (S : Cs) : X2 → Expr → Option (Expr × Expr)
  | .lrng, e => (match e with | .Call (.Name x _) [.Call (.Name y _) [a, b] [] _] [] _ => if decide (x = ("list" : Str)) && frB T S "list" && decide (y = ("range" : Str)) && frB T S "range" && notStar a && notStar b then some (a, b) else none | _ => none)
  | .gcd, e => (match e with | .Call (.Name x _) [a, b] [] _ => if decide (x = ("gcd" : Str)) && glB S "gcd" && T.gc && notStar a && notStar b then some (a, b) else none | _ => none)
section
variable (T : Tbl)
mutual
def chkE : E → Cs → Expr → Bool
  | .never, _, _ => true
  | .var i, S, e => (match e with | .Name x _ => nmB S i x | _ => false)
  | .non, _, e => (match e with | .Constant .none _ _ => true | _ => false)
  | .bl b, _, e => (match e with | .Constant (.bool c) _ _ => decide (b = c) | _ => false)
  | .int i, _, e => (match e with | .Constant (.int j) _ _ => decide (i = j) | _ => false)
  | .str s, _, e => (match e with | .Constant (.str z) _ _ => decide (s = z) | _ => false)
  | .glo x i, S, e => (match e with | .Name y _ => decide (x = y) && glB S x && okN x && decide ((x, i) ∈ T.gl) | _ => false)
  | .bin op a b, S, e => (match e with | .BinOp ea op' eb _ => decide (op = op') && chkE a S ea && chkE b S eb | _ => false)
  | .neg a, S, e => (match e with | .UnaryOp .USub ea _ => chkE a S ea | _ => false)
  | .cmp op a b, S, e => (match e with | .Compare ea [op'] [eb] _ => decide (op = op') && chkE a S ea && chkE b S eb && notSet eb | _ => false)
  | .chain o1 o2 a b c, S, e => (match e with | .Compare ea [p1, p2] [eb, ec] _ => decide (o1 = p1) && decide (o2 = p2) && chkE a S ea && chkE b S eb && chkE c S ec && notSet eb && notSet ec | _ => false)
  | .chain3 o1 o2 o3 a b c d, S, e => (match e with | .Compare ea [p1, p2, p3] [eb, ec, ed] _ => decide (o1 = p1) && decide (o2 = p2) && decide (o3 = p3) && chkE a S ea && chkE b S eb && chkE c S ec && chkE d S ed && notSet ed | _ => false)
  | .and a b, S, e => (match e with | .BoolOp .And (ea :: eb :: rest) pos => chkE a S ea && noIf ea && (match rest with | [] => chkE b S eb && noIf eb | _ :: _ => isAO b && chkE b S (.BoolOp .And (eb :: rest) pos)) | _ => false)
  | .or a b, S, e => (match e with | .BoolOp .Or (ea :: eb :: rest) pos => chkE a S ea && noIf ea && (match rest with | [] => chkE b S eb && noIf eb | _ :: _ => isAO b && chkE b S (.BoolOp .Or (eb :: rest) pos)) | _ => false)
  | .not a, S, e => (match e with | .UnaryOp .Not ea _ => chkE a S ea && noIf ea | _ => false)
  | .ite c a b, S, e => (match e with | .IfExp ec ea eb _ => chkE c S ec && noIf ec && chkE a S ea && chkE b S eb | _ => false)
  | .tup ms, S, e => (match e with | .Tuple es _ _ => chkEs ms S es | _ => false)
  | .lst ms, S, e => (match e with | .List es _ => chkEs ms S es | _ => false)
  | .idx a b, S, e => (match e with | .Subscript ea eb _ => chkE a S ea && chkE b S eb && notSlice eb | _ => false)
  | .slice a lo hi, S, e => (match e with | .Subscript ea (.Slice l h none _) _ => chkE a S ea && chkO lo S l && chkO hi S h | _ => false)
  | .rev a, S, e => false
  | .call f ms, S, e => (match e with | .Call (.Name x _) (ea :: es) [] _ => decide (f = x) && glB S f && okN f && decide ((f, false, ms.length) ∈ T.fs) && notStar ea && es.all notStar && chkEs ms S (ea :: es) | _ => false)
  | .callR f ms, S, e => (match e with | .Call (.Name x _) (.Name y _ :: es) [] _ => (match S.ir with | some i => nmB S i y | none => false) && decide (f = x) && glB S f && okN f && decide ((f, true, ms.length) ∈ T.fs) && es.all notStar && chkEs ms S es | _ => false)
  | .blt b ms, S, e => (match e with | .Call (.Name x _) (ea :: es) [] _ => decide (b.name = x) && frB T S b.name && notStar ea && es.all notStar && chkEs ms S (ea :: es) | _ => false)
  | .isi a t, S, e => (match e with | .Call (.Name x _) [ea, .Name y _] [] _ => decide (x = ("isinstance" : Str)) && frB T S "isinstance" && decide (y = t.name) && frB T S t.name && notStar ea && chkE a S ea | _ => false)
  | .isi2 a t u, S, e => (match e with | .Call (.Name x _) [ea, .Tuple [.Name y _, .Name z _] _ _] [] _ => decide (x = ("isinstance" : Str)) && frB T S "isinstance" && decide (y = t.name) && frB T S t.name && decide (z = u.name) && frB T S u.name && notStar ea && chkE a S ea | _ => false)
  | .x1 o a, S, e => (match shp1 T S o e with | some ea => chkE a S ea | none => false)
  | .x2 o a b, S, e => (match shp2 T S o e with | some (ea, eb) => chkE a S ea && chkE b S eb | none => false)
  | .rowLen, S, e => (match e with | .Call (.Name z _) [.Subscript (.Name x _) (.Constant (.int c) _ _) _] [] _ => (match S.ir with | some i => nmB S i x | none => false) && decide (c = 0) && decide (z = ("len" : Str)) && frB T S "len" | _ => false)
  | .rowCell a, S, e => (match e with | .Subscript (.Subscript (.Name x _) (.Constant (.int c) _ _) _) ea _ => (match S.ir with | some i => nmB S i x | none => false) && decide (c = 0) && notSlice ea && chkE a S ea | _ => false)
  | .rowGet k, S, e => (match e with | .Subscript (.Name x _) (.Constant (.int c) _ _) _ => (match S.ir with | some i => nmB S i x | none => false) && decide (c = (k : Int)) | _ => false)
  | .comp own tg ik ms cond elt, S, e => (match e with
      | .ListComp ee [⟨te, ie, ifs, n⟩] scope _ => decide (n = 0) && notSet ie && chkI T S (fun l => chkEs ms S l) ik te ie && blkC S.N S.sc scope (own.map fun i => (S.N.getD i "", i)) && chkG (blkS S scope) tg te && chkC cond (blkS S scope) ifs && chkE elt (blkS S scope) ee
          && tg.slots.all (fun j => decide (j ∈ own)) && (match S.ir with | some i => decide (i ∉ own) | none => true)
      | _ => false)
  | .comp2 own tg ik ms cond tg1 ik1 ms1 cond1 elt, S, e => (match e with
      | .ListComp ee [⟨te, ie, ifs, n⟩, ⟨te1, ie1, ifs1, n1⟩] scope _ => decide (n = 0) && decide (n1 = 0) && notSet ie && notSet ie1 && chkI T S (fun l => chkEs ms S l) ik te ie && blkC S.N S.sc scope (own.map fun i => (S.N.getD i "", i)) && chkG (blkS S scope) tg te && chkC cond (blkS S scope) ifs
          && chkI T (blkS S scope) (fun l => chkEs ms1 (blkS S scope) l) ik1 te1 ie1 && chkG (blkS S scope) tg1 te1 && chkC cond1 (blkS S scope) ifs1 && chkE elt (blkS S scope) ee
          && tg.slots.all (fun j => decide (j ∈ own)) && tg1.slots.all (fun j => decide (j ∈ own)) && (match S.ir with | some i => decide (i ∉ own) | none => true)
      | _ => false)
def chkEs : List E → Cs → List Expr → Bool
  | [], _, es => es.isEmpty
  | m :: ms, S, es => (match es with | e :: es => chkE m S e && notStar e && chkEs ms S es | [] => false)
def chkO : Option E → Cs → Option Expr → Bool
  | none, _, e => e.isNone
  | some m, S, e => (match e with | some e => chkE m S e | none => false)
def chkC : Option E → Cs → List Expr → Bool
  | none, _, es => es.isEmpty
  | some m, S, es => (match es with | [e] => chkE m S e && noIf e | _ => false)
end
end
end Lt

set_option Elab.async false
set_option linter.all false
set_option maxRecDepth 100000
set_option maxHeartbeats 8000000
/-! LtH: expressions are sound. -/
namespace Lt
open PySem PySem.Spec PyProof.Rows L2

/-- the program's facts -/
structure Gam (P : Program) (w : World) (K : PySem.W.Frag) (mg : Str → Option Value) (base : Heap) (k : Nat) (F : Orc) (T : Tbl) : Prop where
  fr : ∀ x ∈ T.fr, mg x = none
  gl : ∀ q ∈ T.gl, ∃ t, mg q.1 = some (.int q.2 t)
  fs : ∀ q ∈ T.fs, ∃ f fd ps, mg q.1 = some (.ref f) ∧ PySem.W.keepIn K (.ref f) = true ∧ Binds K fd ps [] ∧ FnOk P w K mg base CX0 k f fd ps (spF F K q.1 q.2.1 q.2.2)
  gc : T.gc = true → mg "gcd" = some (.builtin "math.gcd")
structure CxOk (P : Program) (w : World) (K : PySem.W.Frag) (mg : Str → Option Value) (base : Heap) (k : Nat) (S : Cs) (X : Cx) : Prop where
  prog : X.prog = P
  w : X.w = w
  K : X.K = K
  mg : X.mg = mg
  base : X.base = base
  calm : X.calm = true
  room : Room k X.A
  N : X.N = S.N
  nd : S.N.Nodup
  sc : X.env.scope = S.sc
  fn : X.fn = S.fn
section
variable {P : Program} {w : World} {K : PySem.W.Frag} {mg : Str → Option Value} {base : Heap} {k : Nat} {F : Orc} {T : Tbl}
theorem CxOk.hu {S : Cs} {X : Cx} (C : CxOk P w K mg base k S X) : X.A.units + 100 < cLine := by
  have := C.room.un
  omega
theorem nm_of {S : Cs} {X : Cx} (C : CxOk P w K mg base k S X) {i : Nat} {x : Str} (h : nmB S i x = true) : X.N[i]? = some x ∧ Vis X.env.scope x ∧ (x == ("__debug__" : Str)) = false ∧ (x == ("__classdict__" : Str)) = false := by
  unfold nmB okN visB at h
  simp only [Bool.and_eq_true, decide_eq_true_eq, Bool.not_eq_true'] at h
  obtain ⟨⟨h1, h2⟩, h3, h4⟩ := h
  refine ⟨by rw [C.N]; exact h1, ?_, h3, h4⟩
  rw [C.sc]
  unfold Vis
  split at h2 <;> first
    | (rename_i q; exact .inl q)
    | (rename_i q; exact .inr (.inl q))
    | (rename_i q; exact .inr (.inr q))
    | cases h2
theorem gl_of {S : Cs} {X : Cx} (C : CxOk P w K mg base k S X) {x : Str} (h : glB S x = true) : Gl X x := by
  unfold glB at h
  unfold Gl Env.kindOf
  rw [C.sc]
  exact of_decide_eq_true h
theorem fr_of (Γ : Gam P w K mg base k F T) {S : Cs} {X : Cx} (C : CxOk P w K mg base k S X) {x : Str} (h : frB T S x = true) : Gl X x ∧ X.mg x = none := by
  unfold frB at h
  rw [Bool.and_eq_true, decide_eq_true_eq] at h
  exact ⟨gl_of C h.1, by rw [C.mg]; exact Γ.fr x h.2⟩
theorem okN_of {x : Str} (h : okN x = true) : (x == ("__debug__" : Str)) = false ∧ (x == ("__classdict__" : Str)) = false := by
  unfold okN at h
  simp only [Bool.and_eq_true, Bool.not_eq_true'] at h
  exact h
theorem CxOk.blk {S : Cs} {X : Cx} (C : CxOk P w K mg base k S X) (scope : Scope) (s : Shared) (H : Hp) (Cc : Addr) (cl : List (Str × Addr)) (fp : List Addr) : CxOk P w K mg base k (blkS S scope) (X.blk s H scope (compEnvC scope cl Cc X.env) fp) :=
  ⟨C.prog, C.w, C.K, C.mg, C.base, C.calm, C.room, C.N, C.nd, by
    show relabel scope X.env = relS scope S.sc
    rw [← C.sc]
    rfl, rfl⟩
mutual
theorem sG : ∀ (t : Tg) (S : Cs) (X : Cx) (e : Expr), CxOk P w K mg base k S X → chkG S t e = true → PG X e (RT t)
  | .n i, S, X, e, C, h => by
    unfold chkG at h
    split at h
    · rw [Bool.and_eq_true, decide_eq_true_eq] at h
      obtain ⟨h1, h2⟩ := h
      unfold locB at h2
      refine g_name (by rw [C.N]; exact C.nd) (by rw [C.N]; exact h1) ?_ ?_
      · rw [C.sc]
        unfold L2.Loc
        split at h2 <;> first
          | (rename_i q; exact .inl q)
          | (rename_i q; exact .inr q)
          | cases h2
      · rw [C.sc, C.fn]
        split at h2 <;> first
          | (rename_i q; exact .inr q)
          | exact .inl h2
          | cases h2
    · cases h
  | .t ts, S, X, e, C, h => by
    unfold chkG at h
    split at h
    · rename_i es _ _
      obtain ⟨h1, h2, h3⟩ := sGs ts S X es C h
      exact g_tup C.calm h1 h2 h3
    · cases h
theorem sGs : ∀ (ts : List Tg) (S : Cs) (X : Cx) (es : List Expr), CxOk P w K mg base k S X → chkGs S ts es = true → PGs X es (RTs ts) ∧ es.length = ts.length ∧ es.all notStar = true
  | [], S, X, es, C, h => by
    unfold chkGs at h; rw [List.isEmpty_iff] at h
    subst h
    exact ⟨gs_nil, rfl, rfl⟩
  | t :: ts, S, X, es, C, h => by
    unfold chkGs at h
    split at h
    · rename_i e es
      simp only [Bool.and_eq_true] at h
      obtain ⟨h1, h2, h3⟩ := sGs ts S X es C h.2
      exact ⟨gs_cons (sG t S X e C h.1.1) h1 h.1.2, by simp [h2], by simp [h.1.2, h3]⟩
    · cases h
end
/-- what is shown of an expression: as a value, as a test, as a chain of and, or -/
def Snd (F : Orc) (K : PySem.W.Frag) (S : Cs) (X : Cx) (m : E) (e : Expr) : Prop := PE X e (RE F K S.ir m) ∧ (noIf e = true → PT X e (RB F K S.ir m)) ∧ (isAO m = true → PW X e (RB F K S.ir m))
theorem snd_val {S : Cs} {X : Cx} {m : E} {e : Expr} (h : PE X e (RE F X.K S.ir m)) (hK : X.K = K) (hp : noIf e = true → plainTest e = true) (hm : isAO m = false) : Snd F K S X m e := by
  subst hK
  exact ⟨h, fun q => t_val h (hp q), fun q => by rw [hm] at q; cases q⟩
theorem shp1_plain {S : Cs} {o : X1} {e ea : Expr} (h : shp1 T S o e = some ea) (q : noIf e = true) : plainTest e = true := by
  cases o <;> unfold shp1 at h <;> first
    | (cases h; done)
    | (dsimp only at h; split at h <;> first | rfl | cases h)
theorem shp2_plain {S : Cs} {o : X2} {e : Expr} {ee : Expr × Expr} (h : shp2 T S o e = some ee) (q : noIf e = true) : plainTest e = true := by
  cases o <;> unfold shp2 at h <;> (dsimp only at h; split at h <;> first | rfl | cases h)
variable (Γ : Gam P w K mg base k F T)
include Γ
theorem sI (ik : IK) (ms : List E) (S : Cs) (X : Cx) (te ie : Expr) (C : CxOk P w K mg base k S X) (hE : ∀ es, chkEs T ms S es = true → PA X es (RS F K S.ir ms) ∧ ∀ m e, ms = [m] → es = [e] → PE X e (RE F K S.ir m))
    (h : chkI T S (fun l => chkEs T ms S l) ik te ie = true) : PI X te ie (RI F K S.ir ik ms) := by
  cases ik with
  | plain =>
    unfold chkI at h; dsimp only at h
    match ms, hE, h with
    | [m], hE, h =>
      have ha := (hE _ h).2 m ie rfl rfl
      rw [← C.K] at ha ⊢
      exact i_plain ha
    | [], hE, h => simp [chkEs] at h
    | _ :: _ :: _, hE, h => simp [chkEs] at h
  | range =>
    unfold chkI at h; dsimp only at h
    split at h
    · rename_i x p es pos
      simp only [Bool.and_eq_true, decide_eq_true_eq] at h
      obtain ⟨⟨⟨rfl, h2⟩, h3⟩, h4⟩ := h
      obtain ⟨g1, g2⟩ := fr_of Γ C h2
      have ha := (hE _ h3).1
      rw [← C.K] at ha ⊢
      clear hE
      match ms, es, h3, h4, ha with
      | [m], [a], h3, _, ha =>
        simp only [chkEs, Bool.and_eq_true] at h3
        exact i_range1 g1 g2 ha h3.1.2
      | [m, n], [a, b], h3, _, ha =>
        simp only [chkEs, Bool.and_eq_true] at h3
        exact i_range2 g1 g2 ha h3.1.2 h3.2.1.2
      | _, [], _, h4, _ => simp at h4
      | _, _ :: _ :: _ :: _, _, h4, _ => simp at h4
      | [], [_], h3, _, _ => simp [chkEs] at h3
      | [], [_, _], h3, _, _ => simp [chkEs] at h3
      | [_], [_, _], h3, _, _ => simp [chkEs] at h3
      | _ :: _ :: _, [_], h3, _, _ => simp [chkEs] at h3
      | _ :: _ :: _ :: _, [_, _], h3, _, _ => simp [chkEs] at h3
    · cases h
  | enum =>
    unfold chkI at h; dsimp only at h
    split at h
    · simp only [Bool.and_eq_true, decide_eq_true_eq] at h
      obtain ⟨⟨rfl, h2⟩, h3⟩ := h
      obtain ⟨g1, g2⟩ := fr_of Γ C h2
      have ha := (hE _ h3).1
      rw [← C.K] at ha ⊢
      clear hE
      match ms, h3, ha with
      | [m], h3, ha =>
        simp only [chkEs, Bool.and_eq_true] at h3
        exact i_enum g1 g2 ha h3.1.2
      | [], h3, _ => simp [chkEs] at h3
      | _ :: _ :: _, h3, _ => simp [chkEs] at h3
    · cases h
  | zipN =>
    unfold chkI at h; dsimp only at h
    split at h
    · simp only [Bool.and_eq_true, decide_eq_true_eq] at h
      obtain ⟨⟨rfl, h2⟩, h3⟩ := h
      obtain ⟨g1, g2⟩ := fr_of Γ C h2
      have ha := (hE _ h3).1
      rw [← C.K] at ha ⊢
      clear hE
      match ms, h3, ha with
      | [m, n], h3, ha =>
        simp only [chkEs, Bool.and_eq_true] at h3
        exact i_zipN g1 g2 ha h3.1.2 h3.2.1.2
      | [], h3, _ => simp [chkEs] at h3
      | [_], h3, _ => simp [chkEs] at h3
      | _ :: _ :: _ :: _, h3, _ => simp [chkEs] at h3
    · cases h
  | down =>
    unfold chkI at h; dsimp only at h
    split at h
    · simp only [Bool.and_eq_true, decide_eq_true_eq] at h
      obtain ⟨⟨rfl, h2⟩, h3⟩ := h
      obtain ⟨g1, g2⟩ := fr_of Γ C h2
      have ha := (hE _ h3).1
      rw [← C.K] at ha ⊢
      clear hE
      match ms, h3, ha with
      | [m, n, o], h3, ha =>
        simp only [chkEs, Bool.and_eq_true] at h3
        exact i_down g1 g2 ha h3.1.2 h3.2.1.2 h3.2.2.1.2
      | [], h3, _ => simp [chkEs] at h3
      | [_], h3, _ => simp [chkEs] at h3
      | [_, _], h3, _ => simp [chkEs] at h3
      | _ :: _ :: _ :: _ :: _, h3, _ => simp [chkEs] at h3
    · cases h
  | zip =>
    unfold chkI at h; dsimp only at h
    split at h
    · simp only [Bool.and_eq_true, decide_eq_true_eq] at h
      obtain ⟨⟨rfl, h2⟩, h3⟩ := h
      obtain ⟨g1, g2⟩ := fr_of Γ C h2
      have ha := (hE _ h3).1
      rw [← C.K] at ha ⊢
      clear hE
      match ms, h3, ha with
      | [m, n], h3, ha =>
        simp only [chkEs, Bool.and_eq_true] at h3
        exact i_zip g1 g2 ha h3.1.2 h3.2.1.2
      | [], h3, _ => simp [chkEs] at h3
      | [_], h3, _ => simp [chkEs] at h3
      | _ :: _ :: _ :: _, h3, _ => simp [chkEs] at h3
    · cases h
theorem x1_ok {o : X1} {a : E} {S : Cs} {X : Cx} {e ea : Expr} (C : CxOk P w K mg base k S X) (h : shp1 T S o e = some ea) (ha : PE X ea (RE F X.K S.ir a)) : PE X e (RE F X.K S.ir (.x1 o a)) := by
  have hc := C.calm
  cases o with
  | revT => cases h
  | revL =>
    unfold shp1 at h; dsimp only at h
    split at h
    · cases h; exact e_revL ha
    · cases h
  | lrng =>
    unfold shp1 at h; dsimp only at h
    split at h
    · split at h
      · rename_i c
        simp only [Bool.and_eq_true, decide_eq_true_eq] at c
        obtain ⟨⟨⟨⟨rfl, c2⟩, rfl⟩, c4⟩, c5⟩ := c
        cases h
        exact e_lrng hc (fr_of Γ C c2).1 (fr_of Γ C c2).2 (fr_of Γ C c4).1 (fr_of Γ C c4).2 ha c5
      · cases h
    · cases h
  | trng =>
    unfold shp1 at h; dsimp only at h
    split at h
    · split at h
      · rename_i c
        simp only [Bool.and_eq_true, decide_eq_true_eq] at c
        obtain ⟨⟨⟨⟨rfl, c2⟩, rfl⟩, c4⟩, c5⟩ := c
        cases h
        exact e_trng hc (fr_of Γ C c2).1 (fr_of Γ C c2).2 (fr_of Γ C c4).1 (fr_of Γ C c4).2 ha c5
      · cases h
    · cases h
theorem x2_ok {o : X2} {a b : E} {S : Cs} {X : Cx} {e ea eb : Expr} (C : CxOk P w K mg base k S X) (h : shp2 T S o e = some (ea, eb)) (ha : PE X ea (RE F X.K S.ir a)) (hb : PE X eb (RE F X.K S.ir b)) : PE X e (RE F X.K S.ir (.x2 o a b)) := by
  have hc := C.calm
  cases o with
  | lrng =>
    unfold shp2 at h; dsimp only at h
    split at h
    · split at h
      · rename_i c
        simp only [Bool.and_eq_true, decide_eq_true_eq] at c
        obtain ⟨⟨⟨⟨⟨rfl, c2⟩, rfl⟩, c4⟩, c5⟩, c6⟩ := c
        cases h
        exact e_lrng2 hc (fr_of Γ C c2).1 (fr_of Γ C c2).2 (fr_of Γ C c4).1 (fr_of Γ C c4).2 ha hb c5 c6
      · cases h
    · cases h
  | gcd =>
    unfold shp2 at h; dsimp only at h
    split at h
    · split at h
      · rename_i c
        simp only [Bool.and_eq_true, decide_eq_true_eq] at c
        obtain ⟨⟨⟨⟨rfl, c2⟩, c3⟩, c5⟩, c6⟩ := c
        cases h
        exact e_gcd (gl_of C c2) (by rw [C.mg]; exact Γ.gc c3) (s_cons ha (s_cons hb s_nil c6) c5) c5 c6
      · cases h
    · cases h
mutual
theorem sE : ∀ (m : E) (S : Cs) (X : Cx) (e : Expr), CxOk P w K mg base k S X → chkE T m S e = true → Snd F K S X m e
  | .never, S, X, e, C, h => by
    rw [Snd, ← C.K]
    exact ⟨e_never, fun _ => t_never, fun _ => w_never⟩
  | .var i, S, X, e, C, h => by
    unfold chkE at h
    split at h
    · obtain ⟨h1, h2, h3, h4⟩ := nm_of C h
      exact snd_val (e_var h1 h2 h3 h4) C.K (fun _ => rfl) rfl
    · cases h
  | .non, S, X, e, C, h => by
    unfold chkE at h
    split at h
    · exact snd_val e_non C.K (fun _ => rfl) rfl
    · cases h
  | .bl b, S, X, e, C, h => by
    unfold chkE at h
    split at h
    · obtain rfl := of_decide_eq_true h
      exact snd_val e_bl C.K (fun _ => rfl) rfl
    · cases h
  | .int i, S, X, e, C, h => by
    unfold chkE at h
    split at h
    · obtain rfl := of_decide_eq_true h
      exact snd_val e_int C.K (fun _ => rfl) rfl
    · cases h
  | .str z, S, X, e, C, h => by
    unfold chkE at h
    split at h
    · obtain rfl := of_decide_eq_true h
      exact snd_val e_str C.K (fun _ => rfl) rfl
    · cases h
  | .glo x i, S, X, e, C, h => by
    unfold chkE at h
    split at h
    · simp only [Bool.and_eq_true, decide_eq_true_eq] at h
      obtain ⟨⟨⟨rfl, h2⟩, h3⟩, h4⟩ := h
      obtain ⟨t, ht⟩ := Γ.gl _ h4
      exact snd_val (e_glo (gl_of C h2) (by rw [C.mg]; exact ht) (okN_of h3).1) C.K (fun _ => rfl) rfl
    · cases h
  | .bin op a b, S, X, e, C, h => by
    unfold chkE at h
    split at h
    · simp only [Bool.and_eq_true, decide_eq_true_eq] at h
      obtain ⟨⟨rfl, h2⟩, h3⟩ := h
      have ha := (sE a S X _ C h2).1
      have hb := (sE b S X _ C h3).1
      rw [← C.K] at ha hb
      exact snd_val (e_bin ha hb) C.K (fun _ => rfl) rfl
    · cases h
  | .neg a, S, X, e, C, h => by
    unfold chkE at h
    split at h
    · have ha := (sE a S X _ C h).1
      rw [← C.K] at ha
      exact snd_val (e_neg ha) C.K (fun _ => rfl) rfl
    · cases h
  | .cmp op a b, S, X, e, C, h => by
    unfold chkE at h
    split at h
    · simp only [Bool.and_eq_true, decide_eq_true_eq] at h
      obtain ⟨⟨⟨rfl, h2⟩, h3⟩, h4⟩ := h
      have ha := (sE a S X _ C h2).1
      have hb := (sE b S X _ C h3).1
      rw [Snd]
      rw [← C.K] at ha hb ⊢
      exact ⟨e_cmp C.hu ha hb h4, fun _ => t_cmp C.hu ha hb h4, fun q => (by cases q)⟩
    · cases h
  | .chain o1 o2 a b c, S, X, e, C, h => by
    unfold chkE at h
    split at h
    · simp only [Bool.and_eq_true, decide_eq_true_eq] at h
      obtain ⟨⟨⟨⟨⟨⟨rfl, rfl⟩, h2⟩, h3⟩, h4⟩, h5⟩, h6⟩ := h
      have ha := (sE a S X _ C h2).1
      have hb := (sE b S X _ C h3).1
      have hc := (sE c S X _ C h4).1
      rw [Snd]
      rw [← C.K] at ha hb hc ⊢
      exact ⟨e_chain C.hu ha hb hc h5 h6, fun _ => t_chain C.hu ha hb hc h5 h6, fun q => (by cases q)⟩
    · cases h
  | .chain3 o1 o2 o3 a b c d, S, X, e, C, h => by
    unfold chkE at h
    split at h
    · simp only [Bool.and_eq_true, decide_eq_true_eq] at h
      obtain ⟨⟨⟨⟨⟨⟨⟨rfl, rfl⟩, rfl⟩, h2⟩, h3⟩, h4⟩, h5⟩, h6⟩ := h
      have ha := (sE a S X _ C h2).1
      have hb := (sE b S X _ C h3).1
      have hc := (sE c S X _ C h4).1
      have hd := (sE d S X _ C h5).1
      rw [Snd]
      rw [← C.K] at ha hb hc hd ⊢
      exact ⟨e_chain3 C.hu ha hb hc hd h6, fun _ => t_chain3 C.hu ha hb hc hd h6, fun q => (by cases q)⟩
    · cases h
  | .and a b, S, X, e, C, h => by
    unfold chkE at h
    split at h
    · rename_i ea eb rest pos
      simp only [Bool.and_eq_true] at h
      obtain ⟨⟨h1, h2⟩, h3⟩ := h
      have ha := sE a S X _ C h1
      have hb : PE X (.BoolOp .And (eb :: rest) pos) (RE F X.K S.ir b) ∧ PW X (.BoolOp .And (eb :: rest) pos) (RB F X.K S.ir b) := by
        split at h3
        · rw [Bool.and_eq_true] at h3
          have hb := sE b S X _ C h3.1
          rw [Snd, ← C.K] at hb
          exact ⟨pe_one hb.1, pw_and1 (hb.2.1 h3.2)⟩
        · rw [Bool.and_eq_true] at h3
          have hb := sE b S X _ C h3.2
          rw [Snd, ← C.K] at hb
          exact ⟨hb.1, hb.2.2 h3.1⟩
      rw [Snd, ← C.K] at ha ⊢
      have hw := w_and (ha.2.1 h2) hb.2
      exact ⟨e_and ha.1 hb.1, fun _ => hw.pt, fun _ => hw⟩
    · cases h
  | .or a b, S, X, e, C, h => by
    unfold chkE at h
    split at h
    · rename_i ea eb rest pos
      simp only [Bool.and_eq_true] at h
      obtain ⟨⟨h1, h2⟩, h3⟩ := h
      have ha := sE a S X _ C h1
      have hb : PE X (.BoolOp .Or (eb :: rest) pos) (RE F X.K S.ir b) ∧ PW X (.BoolOp .Or (eb :: rest) pos) (RB F X.K S.ir b) := by
        split at h3
        · rw [Bool.and_eq_true] at h3
          have hb := sE b S X _ C h3.1
          rw [Snd, ← C.K] at hb
          exact ⟨pe_one hb.1, pw_or1 (hb.2.1 h3.2)⟩
        · rw [Bool.and_eq_true] at h3
          have hb := sE b S X _ C h3.2
          rw [Snd, ← C.K] at hb
          exact ⟨hb.1, hb.2.2 h3.1⟩
      rw [Snd, ← C.K] at ha ⊢
      have hw := w_or (ha.2.1 h2) hb.2
      exact ⟨e_or ha.1 hb.1, fun _ => hw.pt, fun _ => hw⟩
    · cases h
  | .not a, S, X, e, C, h => by
    unfold chkE at h
    split at h
    · rw [Bool.and_eq_true] at h
      have ha := sE a S X _ C h.1
      rw [Snd, ← C.K] at ha ⊢
      exact ⟨e_not ha.1, fun _ => t_not (ha.2.1 h.2), fun q => (by cases q)⟩
    · cases h
  | .ite c a b, S, X, e, C, h => by
    unfold chkE at h
    split at h
    · simp only [Bool.and_eq_true] at h
      obtain ⟨⟨⟨h1, h2⟩, h3⟩, h4⟩ := h
      have hc := sE c S X _ C h1
      have ha := (sE a S X _ C h3).1
      have hb := (sE b S X _ C h4).1
      rw [Snd, ← C.K] at hc ⊢
      rw [← C.K] at ha hb
      exact ⟨e_ite (hc.2.1 h2) ha hb, fun q => (by cases q), fun q => (by cases q)⟩
    · cases h
  | .tup ms, S, X, e, C, h => by
    unfold chkE at h
    split at h
    · have ha := (sEs ms S X _ C h).1
      rw [← C.K] at ha
      exact snd_val (e_tup ha) C.K (fun _ => rfl) rfl
    · cases h
  | .lst ms, S, X, e, C, h => by
    unfold chkE at h
    split at h
    · have ha := (sEs ms S X _ C h).1
      rw [← C.K] at ha
      exact snd_val (e_lst ha) C.K (fun _ => rfl) rfl
    · cases h
  | .idx a b, S, X, e, C, h => by
    unfold chkE at h
    split at h
    · simp only [Bool.and_eq_true] at h
      obtain ⟨⟨h1, h2⟩, h3⟩ := h
      have ha := (sE a S X _ C h1).1
      have hb := (sE b S X _ C h2).1
      rw [← C.K] at ha hb
      exact snd_val (e_idx C.hu ha hb h3) C.K (fun _ => rfl) rfl
    · cases h
  | .slice a lo hi, S, X, e, C, h => by
    unfold chkE at h
    split at h
    · simp only [Bool.and_eq_true] at h
      obtain ⟨⟨h1, h2⟩, h3⟩ := h
      have ha := (sE a S X _ C h1).1
      have hl := sO lo S X _ C h2
      have hh := sO hi S X _ C h3
      rw [← C.K] at ha hl hh
      exact snd_val (e_slice ha hl hh) C.K (fun _ => rfl) rfl
    · cases h
  | .rev a, S, X, e, C, h => by unfold chkE at h; cases h
  | .call f ms, S, X, e, C, h => by
    unfold chkE at h
    split at h
    · simp only [Bool.and_eq_true, decide_eq_true_eq] at h
      obtain ⟨⟨⟨⟨⟨⟨rfl, h2⟩, h3⟩, h4⟩, h5⟩, h6⟩, h7⟩ := h
      have ha := (sEs ms S X _ C h7).1
      obtain ⟨fa, fd, ps, g1, g2, g3, g4⟩ := Γ.fs _ h4
      obtain ⟨cP, cw, cK, cm, cb, cc, cr, cN, cnd, csc, cfn⟩ := id C
      subst cP cw cK cm cb
      exact snd_val (e_call g4 cr (gl_of C h2) g1 g2 g3 (okN_of h3).1 rfl ha h5 h6) rfl (fun _ => rfl) rfl
    · cases h
  | .callR f ms, S, X, e, C, h => by
    unfold chkE at h
    split at h
    · simp only [Bool.and_eq_true, decide_eq_true_eq] at h
      obtain ⟨⟨⟨⟨⟨⟨h1, rfl⟩, h2⟩, h3⟩, h4⟩, h6⟩, h7⟩ := h
      have ha := (sEs ms S X _ C h7).1
      obtain ⟨fa, fd, ps, g1, g2, g3, g4⟩ := Γ.fs _ h4
      split at h1
      · rename_i i hi
        obtain ⟨n1, n2, n3, n4⟩ := nm_of C h1
        obtain ⟨cP, cw, cK, cm, cb, cc, cr, cN, cnd, csc, cfn⟩ := id C
        subst cP cw cK cm cb
        rw [hi] at ha
        refine snd_val ?_ rfl (fun _ => rfl) rfl
        rw [hi]
        exact e_callR g4 cr (gl_of C h2) g1 g2 g3 (okN_of h3).1 rfl n1 n2 n3 n4 ha h6
      · cases h1
    · cases h
  | .blt b ms, S, X, e, C, h => by
    unfold chkE at h
    split at h
    · simp only [Bool.and_eq_true, decide_eq_true_eq] at h
      obtain ⟨⟨⟨⟨rfl, h2⟩, h3⟩, h4⟩, h5⟩ := h
      have ha := (sEs ms S X _ C h5).1
      rw [← C.K] at ha
      obtain ⟨g1, g2⟩ := fr_of Γ C h2
      exact snd_val (e_blt b C.calm C.hu g1 g2 ha h3 h4) C.K (fun _ => rfl) rfl
    · cases h
  | .isi a t, S, X, e, C, h => by
    unfold chkE at h
    split at h
    · simp only [Bool.and_eq_true, decide_eq_true_eq] at h
      obtain ⟨⟨⟨⟨⟨rfl, h2⟩, rfl⟩, h3⟩, h4⟩, h5⟩ := h
      have ha := (sE a S X _ C h5).1
      rw [← C.K] at ha
      obtain ⟨g1, g2⟩ := fr_of Γ C h2
      obtain ⟨g3, g4⟩ := fr_of Γ C h3
      exact snd_val (e_isi g1 g2 g3 g4 ha h4) C.K (fun _ => rfl) rfl
    · cases h
  | .isi2 a t u, S, X, e, C, h => by
    unfold chkE at h
    split at h
    · simp only [Bool.and_eq_true, decide_eq_true_eq] at h
      obtain ⟨⟨⟨⟨⟨⟨⟨rfl, h2⟩, rfl⟩, h3⟩, rfl⟩, h6⟩, h4⟩, h5⟩ := h
      have ha := (sE a S X _ C h5).1
      rw [← C.K] at ha
      obtain ⟨g1, g2⟩ := fr_of Γ C h2
      obtain ⟨g3, g4⟩ := fr_of Γ C h3
      obtain ⟨g5, g6⟩ := fr_of Γ C h6
      exact snd_val (e_isi2 g1 g2 g3 g4 g5 g6 ha h4) C.K (fun _ => rfl) rfl
    · cases h
  | .x1 o a, S, X, e, C, h => by
    unfold chkE at h
    split at h
    · rename_i ea hs
      have ha := (sE a S X _ C h).1
      rw [← C.K] at ha
      exact snd_val (x1_ok Γ C hs ha) C.K (fun q => shp1_plain hs q) rfl
    · cases h
  | .x2 o a b, S, X, e, C, h => by
    unfold chkE at h
    split at h
    · rename_i ea eb hs
      rw [Bool.and_eq_true] at h
      have ha := (sE a S X _ C h.1).1
      have hb := (sE b S X _ C h.2).1
      rw [← C.K] at ha hb
      exact snd_val (x2_ok Γ C hs ha hb) C.K (fun q => shp2_plain hs q) rfl
    · cases h
  | .rowLen, S, X, e, C, h => by
    unfold chkE at h
    split at h
    · simp only [Bool.and_eq_true, decide_eq_true_eq] at h
      obtain ⟨⟨⟨h1, rfl⟩, rfl⟩, h2⟩ := h
      split at h1
      · rename_i i hi
        obtain ⟨n1, n2, n3, n4⟩ := nm_of C h1
        obtain ⟨g1, g2⟩ := fr_of Γ C h2
        refine snd_val ?_ C.K (fun _ => rfl) rfl
        rw [hi]
        exact e_rowLen n1 n2 n3 n4 g1 g2
      · cases h1
    · cases h
  | .rowCell a, S, X, e, C, h => by
    unfold chkE at h
    split at h
    · simp only [Bool.and_eq_true, decide_eq_true_eq] at h
      obtain ⟨⟨⟨h1, rfl⟩, h2⟩, h3⟩ := h
      have ha := (sE a S X _ C h3).1
      rw [← C.K] at ha
      split at h1
      · rename_i i hi
        obtain ⟨n1, n2, n3, n4⟩ := nm_of C h1
        refine snd_val ?_ C.K (fun _ => rfl) rfl
        rw [hi] at ha ⊢
        exact e_rowCell n1 n2 n3 n4 ha h2
      · cases h1
    · cases h
  | .rowGet kk, S, X, e, C, h => by
    unfold chkE at h
    split at h
    · simp only [Bool.and_eq_true, decide_eq_true_eq] at h
      obtain ⟨h1, rfl⟩ := h
      split at h1
      · rename_i i hi
        obtain ⟨n1, n2, n3, n4⟩ := nm_of C h1
        refine snd_val ?_ C.K (fun _ => rfl) rfl
        rw [hi]
        exact e_rowGet n1 n2 n3 n4
      · cases h1
    · cases h
  | .comp own tg ik ms cond elt, S, X, e, C, h => by
    unfold chkE at h
    split at h
    · rename_i ee te ie ifs n scope pos
      simp only [Bool.and_eq_true, decide_eq_true_eq, List.all_eq_true] at h
      obtain ⟨⟨⟨⟨⟨⟨⟨⟨rfl, h2⟩, h3⟩, h4⟩, h5⟩, h6⟩, h7⟩, h8⟩, h9⟩ := h
      have hi := sI Γ ik ms S X te ie C (fun l hl => sEs ms S X l C hl) h3
      have hown : (own.map fun i => (S.N.getD i "", i)).map (·.2) = own := by
        clear h3 h4 h8 h9 hi
        induction own with
        | nil => rfl
        | cons i r ih => rw [List.map_cons, List.map_cons, ih]
      have hc := fun s H Cc cl fp => sC cond (blkS S scope) _ ifs (C.blk scope s H Cc cl fp) h6
      have he := fun s H Cc cl fp => (sE elt (blkS S scope) _ ee (C.blk scope s H Cc cl fp) h7).1
      have hg := fun s H Cc cl fp => sG tg (blkS S scope) _ te (C.blk scope s H Cc cl fp) h5
      obtain ⟨cP, cw, cK, cm, cb, cc, cr, cN, cnd, csc, cfn⟩ := id C
      subst cP cw cK cm cb
      have := e_comp (X := X) (F := F) (ir := S.ir) (pos := pos) (own := own.map fun i => (S.N.getD i "", i)) (tg := tg) (ik := ik) (ms := ms) (cond := cond) (melt := elt) cc (by rw [cN]; exact cnd) hi (blkOk_by (by rw [cN, csc]; exact h4)) hg hc he h2
        (by rw [hown]; exact h8) (by
          rw [hown]
          intro i hi
          rw [hi] at h9
          exact of_decide_eq_true h9)
      rw [hown] at this
      exact snd_val this rfl (fun _ => rfl) rfl
    · cases h
  | .comp2 own tg ik ms cond tg1 ik1 ms1 cond1 elt, S, X, e, C, h => by
    unfold chkE at h
    split at h
    · rename_i ee te ie ifs n te1 ie1 ifs1 n1 scope pos
      simp only [Bool.and_eq_true, decide_eq_true_eq, List.all_eq_true] at h
      obtain ⟨⟨⟨⟨⟨⟨⟨⟨⟨⟨⟨⟨⟨⟨rfl, rfl⟩, h2⟩, h2b⟩, h3⟩, h4⟩, h5⟩, h6⟩, h3b⟩, h5b⟩, h6b⟩, h7⟩, h8⟩, h8b⟩, h9⟩ := h
      have hi := sI Γ ik ms S X te ie C (fun l hl => sEs ms S X l C hl) h3
      have hown : (own.map fun i => (S.N.getD i "", i)).map (·.2) = own := by
        clear h3 h4 h8 h8b h9 hi
        induction own with
        | nil => rfl
        | cons i r ih => rw [List.map_cons, List.map_cons, ih]
      have hc := fun s H Cc cl fp => sC cond (blkS S scope) _ ifs (C.blk scope s H Cc cl fp) h6
      have hc1 := fun s H Cc cl fp => sC cond1 (blkS S scope) _ ifs1 (C.blk scope s H Cc cl fp) h6b
      have he := fun s H Cc cl fp => (sE elt (blkS S scope) _ ee (C.blk scope s H Cc cl fp) h7).1
      have hg := fun s H Cc cl fp => sG tg (blkS S scope) _ te (C.blk scope s H Cc cl fp) h5
      have hg1 := fun s H Cc cl fp => sG tg1 (blkS S scope) _ te1 (C.blk scope s H Cc cl fp) h5b
      have hi1 := fun s H Cc cl fp => sI Γ ik1 ms1 (blkS S scope) _ te1 ie1 (C.blk scope s H Cc cl fp) (fun l hl => sEs ms1 (blkS S scope) _ l (C.blk scope s H Cc cl fp) hl) h3b
      obtain ⟨cP, cw, cK, cm, cb, cc, cr, cN, cnd, csc, cfn⟩ := id C
      subst cP cw cK cm cb
      have := e_compT (X := X) (F := F) (ir := S.ir) (pos := pos) (own := own.map fun i => (S.N.getD i "", i)) (tg := tg) (ik := ik) (ms := ms) (cond := cond) (tg1 := tg1) (ik1 := ik1) (ms1 := ms1) (cond1 := cond1) (melt := elt) cc (by rw [cN]; exact cnd) hi (blkOk_by (by rw [cN, csc]; exact h4)) hg hc hi1 hg1 hc1 he h2 h2b
        (by rw [hown]; exact h8) (by rw [hown]; exact h8b) (by
          rw [hown]
          intro i hi
          rw [hi] at h9
          exact of_decide_eq_true h9)
      rw [hown] at this
      exact snd_val this rfl (fun _ => rfl) rfl
    · cases h
theorem sEs : ∀ (ms : List E) (S : Cs) (X : Cx) (es : List Expr), CxOk P w K mg base k S X → chkEs T ms S es = true → PA X es (RS F K S.ir ms) ∧ ∀ m e, ms = [m] → es = [e] → PE X e (RE F K S.ir m)
  | [], S, X, es, C, h => by
    unfold chkEs at h; rw [List.isEmpty_iff] at h
    subst h
    rw [← C.K]
    exact ⟨s_nil, fun _ _ z => (nomatch z)⟩
  | m :: ms, S, X, es, C, h => by
    unfold chkEs at h
    split at h
    · simp only [Bool.and_eq_true] at h
      have ha := (sE m S X _ C h.1.1).1
      have hb := (sEs ms S X _ C h.2).1
      rw [← C.K] at ha hb ⊢
      refine ⟨s_cons ha hb h.1.2, fun m' e' z1 z2 => ?_⟩
      injection z1 with z1 _
      injection z2 with z2 _
      rw [← z1, ← z2]
      exact ha
    · cases h
theorem sO : ∀ (m : Option E) (S : Cs) (X : Cx) (e : Option Expr), CxOk P w K mg base k S X → chkO T m S e = true → PO X e (RO F K S.ir m)
  | none, S, X, e, C, h => by
    unfold chkO at h; rw [Option.isNone_iff_eq_none] at h
    subst h
    rw [← C.K]
    exact o_none
  | some m, S, X, e, C, h => by
    unfold chkO at h
    split at h
    · have ha := (sE m S X _ C h).1
      rw [← C.K] at ha ⊢
      exact o_some ha
    · cases h
theorem sC : ∀ (m : Option E) (S : Cs) (X : Cx) (es : List Expr), CxOk P w K mg base k S X → chkC T m S es = true → PTs X es (RC F K S.ir m)
  | none, S, X, es, C, h => by
    unfold chkC at h; rw [List.isEmpty_iff] at h
    subst h
    rw [← C.K]
    exact c_none
  | some m, S, X, es, C, h => by
    unfold chkC at h
    split at h
    · rw [Bool.and_eq_true] at h
      have ha := sE m S X _ C h.1
      rw [Snd, ← C.K] at ha
      rw [← C.K]
      exact c_some (ha.2.1 h.2)
    · cases h
end
end
end Lt

set_option Elab.async false
set_option linter.all false
set_option maxRecDepth 100000
set_option maxHeartbeats 8000000
/-! LtI: slots of a def, some of them owned; the two ways to read an expression. -/
namespace Lt
open PySem PySem.Spec PyProof.Rows L2

/-- what stands in a slot: nothing told, data that nobody changes, a list, a list of lists, a dict of the def's own -/
inductive Sl where
  | un
  | fr (d : D)
  | l (ds : List D)
  | ll (dss : List (List D))
  | dt (kvs : List (List Key × D))
def Sl.fz : Sl → Sl
  | .l ds => .fr (.lst ds)
  | .ll dss => .fr (.lst (dss.map D.lst))
  | .dt kvs => .fr (.dT kvs)
  | s => s
def Sl.vw : Sl → Option D
  | .fr d => some d
  | _ => none
def fzG (P : Nat → Bool) : Nat → List Sl → List Sl
  | _, [] => []
  | k, sl :: s => (if P k then sl.fz else sl) :: fzG P (k + 1) s
theorem fzG_get (P : Nat → Bool) : ∀ (s : List Sl) (k i : Nat), (fzG P k s)[i]? = s[i]?.map fun sl => if P (k + i) then sl.fz else sl
  | [], _, _ => by simp [fzG]
  | sl :: s, k, 0 => by simp [fzG]
  | sl :: s, k, i + 1 => by
    simp only [fzG, List.getElem?_cons_succ]
    rw [fzG_get P s (k + 1) i]
    rw [show k + 1 + i = k + (i + 1) by omega]
theorem fzG_len (P : Nat → Bool) : ∀ (s : List Sl) (k : Nat), (fzG P k s).length = s.length
  | [], _ => rfl
  | sl :: s, k => by simp [fzG, fzG_len P s]
def frz (js : List Nat) (s : List Sl) : List Sl := fzG (fun i => js.contains i) 0 s
def fzA (s : List Sl) : List Sl := fzG (fun _ => true) 0 s
def vwS (s : List Sl) : Env := s.map Sl.vw
theorem vwS_get {s : List Sl} {i : Nat} {d : D} (h : (vwS s)[i]? = some (some d)) : s[i]? = some (.fr d) := by
  unfold vwS at h
  rw [List.getElem?_map] at h
  cases e : s[i]? with
  | none => rw [e] at h; cases h
  | some sl =>
    rw [e] at h
    cases sl <;> first
      | (cases h; rfl)
      | (simp [Sl.vw] at h)
theorem vwS_len {s : List Sl} : (vwS s).length = s.length := List.length_map ..

abbrev Own := Addr → Option Nat
inductive Rows (G H : Hp) (own : Own) (i : Nat) : List Addr → List (List D) → Prop
  | nil : Rows G H own i [] []
  | cons {b : Addr} {bs : List Addr} {vs : List V} {ds : List D} {dss : List (List D)} : own b = some i → H b = some (.lst vs) → Reps G vs ds → Rows G H own i bs dss → Rows G H own i (b :: bs) (ds :: dss)
def SlOk (G H : Hp) (own : Own) (i : Nat) (ov : Option (Option V)) : Sl → Prop
  | .un => True
  | .fr d => ∃ v, ov = some (some v) ∧ Rep G v d
  | .l ds => ∃ a vs, ov = some (some (.ref a)) ∧ own a = some i ∧ H a = some (.lst vs) ∧ Reps G vs ds
  | .ll dss => ∃ a bs, ov = some (some (.ref a)) ∧ own a = some i ∧ H a = some (.lst (bs.map V.ref)) ∧ (a :: bs).Nodup ∧ Rows G H own i bs dss
  | .dt kvs => ∃ (a : Addr) (ks : List (List Key)) (vs : List V) (ds : List D), ov = some (some (.ref a)) ∧ own a = some i ∧ H a = some (.dT (ks.zip vs)) ∧ ks.length = vs.length ∧ Reps G vs ds ∧ kvs = ks.zip ds
section
variable {G G' H H' : Hp} {own own' : Own} {i : Nat} {ov : Option (Option V)}
theorem Rows.move (g : Same G G') (h : ∀ p, own p = some i → own' p = some i ∧ H' p = H p) : ∀ {bs : List Addr} {dss : List (List D)}, Rows G H own i bs dss → Rows G' H' own' i bs dss
  | _, _, .nil => .nil
  | _, _, .cons h1 h2 h3 r => .cons (h _ h1).1 ((h _ h1).2.trans h2) (h3.mono g) (Rows.move g h r)
theorem SlOk.move (g : Same G G') (h : ∀ p, own p = some i → own' p = some i ∧ H' p = H p) {sl : Sl} (k : SlOk G H own i ov sl) : SlOk G' H' own' i ov sl := by
  cases sl with
  | un => exact True.intro
  | fr d => obtain ⟨v, e, r⟩ := k; exact ⟨v, e, r.mono g⟩
  | l ds => obtain ⟨a, vs, e, ea, eh, r⟩ := k; exact ⟨a, vs, e, (h a ea).1, (h a ea).2.trans eh, r.mono g⟩
  | ll dss => obtain ⟨a, bs, e, ea, eh, nd, r⟩ := k; exact ⟨a, bs, e, (h a ea).1, (h a ea).2.trans eh, nd, r.move g h⟩
  | dt kvs => obtain ⟨a, ks, vs, ds, e, ea, eh, hl, r, hk⟩ := k; exact ⟨a, ks, vs, ds, e, (h a ea).1, (h a ea).2.trans eh, hl, r.mono g, hk⟩
/-- frozen -/
theorem Rows.reps (s : Same G G') (h : ∀ p o, own p = some i → H p = some o → G' p = some o) : ∀ {bs : List Addr} {dss : List (List D)}, Rows G H own i bs dss → Reps G' (bs.map V.ref) (dss.map D.lst)
  | _, _, .nil => .nil
  | _, _, .cons h1 h2 h3 r => .cons (.lst (h _ _ h1 h2) (h3.mono s)) (Rows.reps s h r)
theorem SlOk.fz (s : Same G G') (h : ∀ p o, own p = some i → H p = some o → G' p = some o) {sl : Sl} (k : SlOk G H own i ov sl) : SlOk G' H own' i ov sl.fz := by
  cases sl with
  | un => exact True.intro
  | fr d => obtain ⟨v, e, r⟩ := k; exact ⟨v, e, r.mono s⟩
  | l ds => obtain ⟨a, vs, e, ea, eh, r⟩ := k; exact ⟨_, e, .lst (h a _ ea eh) (r.mono s)⟩
  | ll dss => obtain ⟨a, bs, e, ea, eh, nd, r⟩ := k; exact ⟨_, e, .lst (h a _ ea eh) (r.reps s h)⟩
  | dt kvs =>
    obtain ⟨a, ks, vs, ds, e, ea, eh, hl, r, hk⟩ := k
    subst hk
    exact ⟨_, e, .dT (h a _ ea eh) hl (r.mono s)⟩
end
end Lt
namespace Lt
open PySem PySem.Spec PyProof.Rows L2
structure Bs where
  n : Nat
  H0 : Hp
  G0 : Hp
  r : RA
structure Rel (K : PySem.W.Frag) (ir : Option Nat) (B : Bs) (σ : St) (H : Hp) (s : List Sl) (w : Option W) (G : Hp) (own : Own) : Prop where
  ext : Ext B.r B.H0 B.G0 H G
  row : RowOk K B.r H G w
  var : ∀ (i : Nat) (sl : Sl), s[i]? = some sl → SlOk G H own i (σ[i]?) sl
  row0 : ∃ w0, RowOk K B.r B.H0 B.G0 w0
  rowv : ∀ a t ns, B.r = some (a, t, ns) → ∃ i, ir = some i ∧ σ[i]? = some (some (.ref a))
  len : s.length = B.n ∧ B.n ≤ σ.length
  own : ∀ p i, own p = some i → G p = none ∧ NT H p ∧ B.H0 p = none
section
variable {B : Bs} {H G H' G' : Hp} {own : Own}
/-- a new thing, nobody's yet -/
def Fresh (B : Bs) (H G : Hp) (own : Own) (p : Addr) : Prop := NT H p ∧ G p = none ∧ own p = none ∧ B.H0 p = none
/-- what goes on of it -/
structure Kp (B : Bs) (H G : Hp) (own : Own) (H' G' : Hp) (own' : Own) : Prop where
  g : Same G G'
  k : ∀ p, Fresh B H G own p → Fresh B H' G' own' p ∧ H' p = H p
  o : ∀ p j, own' p = some j → own p = some j ∨ H p = none
theorem Kp.refl : Kp B H G own H G own := ⟨.refl _, fun _ h => ⟨h, rfl⟩, fun _ _ h => .inl h⟩
theorem Kp.trans {H2 G2 : Hp} {own' own2 : Own} (a : Kp B H G own H' G' own') (b : Kp B H' G' own' H2 G2 own2) (m : ∀ p, H p ≠ none → H' p ≠ none) : Kp B H G own H2 G2 own2 :=
  ⟨a.g.trans b.g, fun p h => let ⟨h1, e1⟩ := a.k p h; let ⟨h2, e2⟩ := b.k p h1; ⟨h2, e2.trans e1⟩, fun p j h => by
    rcases b.o p j h with z | z
    · exact a.o p j z
    · refine .inr ?_
      cases q : H p with
      | none => rfl
      | some o => exact absurd z (m p (by rw [q]; exact fun z => nomatch z))⟩
end
section
variable {K : PySem.W.Frag} {ir : Option Nat} {B : Bs} {σ : St} {H G H' G' : Hp} {s : List Sl} {w w' : Option W} {own : Own}
theorem Rel.off (R : Rel K ir B σ H s w G own) {p : Addr} (h : B.H0 p = none) : notR B.r p := R.row0.elim fun _ q => q.off h
theorem Rel.at0 (R : Rel K ir B σ H s w G own) {a t : Addr} {ns : List Int} (h : B.r = some (a, t, ns)) : B.H0 a ≠ none := fun z => R.off z _ _ _ h rfl
theorem Rel.g0 (R : Rel K ir B σ H s w G own) {a t : Addr} {ns : List Int} (h : B.r = some (a, t, ns)) : G a = none := by
  have := R.row
  rw [h] at this
  cases w with
  | none => exact this.elim
  | some w => exact this.2.1
theorem Rel.pre (R : Rel K ir B σ H s w G own) : Pre K ir σ H G B.r (vwS s) w :=
  ⟨R.ext.s, R.row, fun i d h => by have := R.var i _ (vwS_get h); exact this, R.rowv, by rw [vwS_len, R.len.1]; exact R.len.2⟩
theorem Rel.grow (R : Rel K ir B σ H s w G own) (f : ∀ p o, notR B.r p → H p = some o → H' p = some o) (m : ∀ p, H p ≠ none → H' p ≠ none) (g : Same G G') (sb : Same G' H') (n : ∀ p, notR B.r p → NT H p → G' p ≠ none → G p ≠ none) (o : RowOk K B.r H' G' w') :
    Rel K ir B σ H' s w' G' own := by
  have hk : ∀ p i, own p = some i → H' p = H p := fun p i e => by
    obtain ⟨_, h2, h3⟩ := R.own p i e
    cases z : H p with
    | none => exact absurd z h2.ne
    | some o => exact f p o (R.off h3) z
  refine ⟨R.ext.trans ⟨g, sb, f, n, m⟩, o, fun i sl e => (R.var i sl e).move g fun p e => ⟨e, hk p i e⟩, R.row0, R.rowv, R.len, fun p i e => ?_⟩
  obtain ⟨h1, h2, h3⟩ := R.own p i e
  refine ⟨?_, h2.eq (hk p i e), h3⟩
  cases z : G' p with
  | none => rfl
  | some o => exact absurd h1 (n p (R.off h3) h2 (by rw [z]; exact fun z => nomatch z))
theorem Rel.next (R : Rel K ir B σ H s w G own) (x : Ext B.r H G H' G') (o : RowOk K B.r H' G' w') : Rel K ir B σ H' s w' G' own :=
  R.grow x.f x.m x.g x.s x.n o
/-- some slots frozen -/
theorem Rel.fz (R : Rel K ir B σ H s w G own) (P : Nat → Bool) : ∃ G1 own1, Kp B H G own H G1 own1 ∧ Rel K ir B σ H (fzG P 0 s) w G1 own1 := by
  classical
  let G1 : Hp := fun p => match own p with | some j => if P j then H p else G p | none => G p
  let own1 : Own := fun p => match own p with | some j => if P j then none else some j | none => none
  have g0 : ∀ p, own p = none → G1 p = G p := fun p e => by show (match own p with | some j => if P j then H p else G p | none => G p) = _; rw [e]
  have g1 : ∀ p j, own p = some j → P j = true → G1 p = H p := fun p j e q => by show (match own p with | some j => if P j then H p else G p | none => G p) = _; rw [e]; exact if_pos q
  have g2 : ∀ p j, own p = some j → P j = false → G1 p = G p := fun p j e q => by show (match own p with | some j => if P j then H p else G p | none => G p) = _; rw [e]; exact if_neg (by simp [q])
  have o1 : ∀ p j, own1 p = some j ↔ own p = some j ∧ P j = false := fun p j => by
    show (match own p with | some j => if P j then none else some j | none => none) = some j ↔ _
    cases e : own p with
    | none => simp
    | some k =>
      by_cases hk : k = j
      · subst hk; cases q : P k <;> simp <;> exact q
      · cases q : P k <;> simp [hk]
  have gg : Same G G1 := fun p o e => by
    cases q : own p with
    | none => rw [g0 p q]; exact e
    | some j => rw [(R.own p j q).1] at e; cases e
  have gs : Same G1 H := fun p o e => by
    cases q : own p with
    | none => rw [g0 p q] at e; exact R.ext.s _ _ e
    | some j =>
      cases z : P j with
      | true => rw [g1 p j q z] at e; exact e
      | false => rw [g2 p j q z] at e; exact R.ext.s _ _ e
  refine ⟨G1, own1, ⟨gg, fun p h => ⟨⟨h.1, (g0 p h.2.2.1).trans h.2.1, ?_, h.2.2.2⟩, rfl⟩, fun p j h => .inl ((o1 p j).mp h).1⟩, ⟨R.ext.g.trans gg, gs, R.ext.f, fun p h0 h1 h2 => ?_, R.ext.m⟩, ?_, fun i sl e => ?_, R.row0, R.rowv, by rw [fzG_len]; exact R.len, fun p i e => ?_⟩
  · show (match own p with | some j => if P j then none else some j | none => none) = none
    rw [h.2.2.1]
  · cases q : own p with
    | none => rw [g0 p q] at h2; exact R.ext.n p h0 h1 h2
    | some j => exact absurd (R.own p j q).2.2 h1.ne
  · refine R.row.move (fun _ _ _ e => e) R.row fun a t ns z => ⟨rfl, ?_⟩
    have ha := R.at0 z
    cases q : own a with
    | none =>
      rw [g0 a q]
      exact R.g0 z
    | some j => exact absurd (R.own a j q).2.2 ha
  · rw [fzG_get] at e
    obtain ⟨sl0, e0, rfl⟩ := Option.map_eq_some_iff.mp e
    have k := R.var i sl0 e0
    rw [Nat.zero_add]
    cases z : P i with
    | true =>
      rw [if_pos rfl]
      exact k.fz gg fun p o q h => by rw [g1 p i q z]; exact h
    | false =>
      rw [if_neg Bool.false_ne_true]
      exact k.move gg fun p q => ⟨(o1 p i).mpr ⟨q, z⟩, rfl⟩
  · obtain ⟨q, z⟩ := (o1 p i).mp e
    obtain ⟨h1, h2, h3⟩ := R.own p i q
    exact ⟨by rw [g2 p i q z]; exact h1, h2, h3⟩
/-- a slot takes a value -/
theorem Rel.set (R : Rel K ir B σ H s w G own) {i : Nat} {v : V} {d : D} (r : Rep G v d) (hi : i < s.length) (hr : ir ≠ some i) : Rel K ir B (σ.set i (some v)) H (s.set i (.fr d)) w G own := by
  refine ⟨R.ext, R.row, fun j sl e => ?_, R.row0, fun a t ns e => ?_, by rw [List.length_set, List.length_set]; exact R.len, R.own⟩
  · by_cases hj : i = j
    · subst hj
      rw [List.getElem?_set_self hi] at e
      cases e
      exact ⟨v, List.getElem?_set_self (Nat.lt_of_lt_of_le (R.len.1 ▸ hi) R.len.2), r⟩
    · rw [List.getElem?_set_ne hj] at e ⊢
      exact R.var j sl e
  · obtain ⟨i', h1, h2⟩ := R.rowv a t ns e
    refine ⟨i', h1, ?_⟩
    rw [List.getElem?_set_ne (fun z => hr (by rw [z]; exact h1))]
    exact h2
/-- an owned thing is changed, or a new one comes -/
theorem Rel.put (R : Rel K ir B σ H s w G own) {i : Nat} {sl : Sl} {a : Addr} {o : HO} (ha : own a = some i) (hi : i < s.length) (ho : isTupO o = false) (hk : SlOk G (upd H a o) own i (σ[i]?) sl) :
    Rel K ir B σ (upd H a o) (s.set i sl) w G own := by
  obtain ⟨h1, h2, h3⟩ := R.own a i ha
  have off := R.off h3
  refine ⟨⟨R.ext.g, fun b o' e => ?_, fun b o' n e => ?_, fun b e0 e1 e2 => R.ext.n b e0 e1 e2, fun b e => ?_⟩, ?_, fun j sl' e => ?_, R.row0, R.rowv, by rw [List.length_set]; exact R.len, fun p j e => ?_⟩
  · rw [upd_ne (ne_of_none e h1)]; exact R.ext.s _ _ e
  · rw [upd_ne (ne_of_none e h3)]; exact R.ext.f b o' n e
  · by_cases hb : b = a
    · subst hb; rw [upd_same]; exact fun z => nomatch z
    · rw [upd_ne hb]; exact R.ext.m b e
  · obtain ⟨w0, q0⟩ := R.row0
    refine q0.move (fun b o' n e => ?_) R.row fun a' t ns z => ⟨upd_ne fun z' => off a' t ns z z'.symm, R.g0 z⟩
    rw [upd_ne (ne_of_none e h3)]; exact R.ext.f b o' n e
  · by_cases hj : i = j
    · subst hj
      rw [List.getElem?_set_self hi] at e
      cases e
      exact hk
    · rw [List.getElem?_set_ne hj] at e
      exact (R.var j sl' e).move (.refl _) fun p q => ⟨q, upd_ne fun z => by subst z; rw [ha] at q; exact hj (Option.some.inj q)⟩
  · obtain ⟨q1, q2, q3⟩ := R.own p j e
    refine ⟨q1, ?_, q3⟩
    by_cases hp : p = a
    · subst hp; exact ⟨o, upd_same, ho⟩
    · exact q2.eq (upd_ne hp)
theorem Rel.up (R : Rel K ir B σ H s w G own) : Rel K ir { B with G0 := G } σ H s w G own :=
  ⟨⟨.refl _, R.ext.s, R.ext.f, fun _ _ _ h => h, R.ext.m⟩, R.row, R.var, R.row0.elim fun w0 q => ⟨w0, q.move (fun _ _ _ e => e) q fun a t ns z => ⟨rfl, R.g0 z⟩⟩, R.rowv, R.len, R.own⟩
theorem Rel.down {G1 : Hp} (x : Same B.G0 G1) (n : ∀ p, notR B.r p → NT B.H0 p → G1 p ≠ none → B.G0 p ≠ none) (q0 : ∃ w0, RowOk K B.r B.H0 B.G0 w0) (R : Rel K ir { B with G0 := G1 } σ H s w G own) : Rel K ir B σ H s w G own :=
  ⟨⟨x.trans R.ext.g, R.ext.s, R.ext.f, fun p h0 h1 h2 => n p h0 h1 (R.ext.n p h0 h1 h2), R.ext.m⟩, R.row, R.var, q0, R.rowv, R.len, R.own⟩
/-- read with all frozen, and as it was -/
theorem Rel.peek {G1 : Hp} (R : Rel K ir B σ H s w G own) (gg : Same G G1) (x : Ext B.r H G1 H' G') (o : RowOk K B.r H' G' w') : Rel K ir B σ H' s w' G own :=
  R.grow x.f x.m (.refl G) (gg.trans (x.g.trans x.s)) (fun _ _ _ h => h) (o.move (fun _ _ _ e => e) o fun a t ns z => ⟨rfl, R.g0 z⟩)
end
end Lt

set_option Elab.async false
set_option linter.all false
set_option maxRecDepth 100000
set_option maxHeartbeats 8000000
/-! LtJ: statements, their interpreter. -/
namespace Lt
open PySem PySem.Spec PyProof.Rows L2

inductive Md where
  | pk | fz (js : List Nat) | al
inductive PK where
  | fr | l | d
structure PM where
  i : Nat
  k : PK
  md : Md
  m : E
/-- where a thing is stored: a name, a place of a list -/
inductive Tx where
  | n (i : Nat)
  | c (i : Nat) (a : E)
inductive Sx where
  | never
  | set (i : Nat) (md : Md) (m : E)
  | new1 (i : Nat) (md : Md) (m : E)
  | new2 (i : Nat) (md : Md) (m : E)
  | newD (i : Nat)
  | unp (tg : Tg) (md : Md) (m : E)
  | par (ps : List PM)
  | aug (i : Nat) (op : Operator) (m : E)
  | app (i : Nat) (md : Md) (m : E)
  | put1 (i : Nat) (md : Md) (m a : E)
  | put2 (i : Nat) (m a b : E)
  | putD (i : Nat) (m a : E)
  | ext (i : Nat) (md : Md) (m : E)
  | parS (ts : List Tx) (es : List E)
  | rowSet (k : Nat) (m : E)
  | expr (md : Md) (m : E)
  | ifS (c : E) (a b : List Sx)
  | forS (tg : Tg) (ik : IK) (md : Md) (ms : List E) (body : List Sx)
  | whileS (fu : Nat) (c : E) (body : List Sx)
  | ret (m : E)
  | retN
  | brk
  | cont

def isSc : D → Bool
  | .non => true
  | .bl _ => true
  | .int _ => true
  | .str _ => true
  | _ => false
abbrev Sls := List Sl
inductive Res where
  | nx (s : Sls) (w : Option W)
  | rt (d : D) (w : Option W)
  | bk (s : Sls) (w : Option W)
  | ct (s : Sls) (w : Option W)
def setRow (w : W) (k : Nat) (i : Int) : Option W :=
  match k with
  | 1 => some { w with a := i }
  | 2 => some { w with b := i }
  | 3 => some { w with c := i }
  | _ => none
def asI : D → Option Int
  | .int i => some i
  | _ => none
theorem asI_some {d : D} {i : Int} (h : asI d = some i) : d = .int i := by
  cases d <;> first
    | (cases h; rfl)
    | cases h
def augI : Operator → Int → Int → Option Int
  | .Add, a, b => some (a + b)
  | .Sub, a, b => some (a - b)
  | .Mult, a, b => if big a || big b then some (a * b) else none
  | _, _, _ => none
def Sl.asL : Sl → Option (List D)
  | .l ds => some ds
  | _ => none
def Sl.asLL : Sl → Option (List (List D))
  | .ll ds => some ds
  | _ => none
def Sl.asT : Sl → Option (List (List Key × D))
  | .dt ds => some ds
  | _ => none
theorem Sl.asL_some {sl : Sl} {d : List D} (h : sl.asL = some d) : sl = .l d := by
  cases sl <;> first
    | (cases h; rfl)
    | cases h
theorem Sl.asLL_some {sl : Sl} {d : List (List D)} (h : sl.asLL = some d) : sl = .ll d := by
  cases sl <;> first
    | (cases h; rfl)
    | cases h
theorem Sl.asT_some {sl : Sl} {d : List (List Key × D)} (h : sl.asT = some d) : sl = .dt d := by
  cases sl <;> first
    | (cases h; rfl)
    | cases h
def asTu : D → Option (List D)
  | .tup ds => some ds
  | _ => none
theorem asTu_some {d : D} {i : List D} (h : asTu d = some i) : d = .tup i := by
  cases d <;> first
    | (cases h; rfl)
    | cases h
def asLs : D → Option (List D)
  | .lst ds => some ds
  | _ => none
theorem asLs_some {d : D} {i : List D} (h : asLs d = some i) : d = .lst i := by
  cases d <;> first
    | (cases h; rfl)
    | cases h
def putT (kvs : List (List Key × D)) (k : List Key) (d : D) : List (List Key × D) :=
  if (kvs.any fun kv => decide (kv.1 = k)) = true then kvs.map (fun kv => if kv.1 = k then (kv.1, d) else kv) else kvs ++ [(k, d)]
mutual
def bindS : Tg → D → Sls → Option Sls
  | .n i, d, s => if i < s.length then some (s.set i (.fr d)) else none
  | .t ts, .tup ds, s => bindSs ts ds s
  | _, _, _ => none
def bindSs : List Tg → List D → Sls → Option Sls
  | [], [], s => some s
  | t :: ts, d :: ds, s => (bindS t d s).bind (bindSs ts ds)
  | _, _, _ => none
end
def forL (f : D → Sls → Option W → Option Res) : List D → Sls → Option W → Option Res
  | [], s, w => some (.nx s w)
  | d :: r, s, w => (f d s w).bind fun x => match x with
      | .nx s1 w1 => forL f r s1 w1
      | .ct s1 w1 => forL f r s1 w1
      | .bk s1 w1 => some (.nx s1 w1)
      | .rt d1 w1 => some (.rt d1 w1)
/-- turns of a while, at most so many -/
def whL (fc : Sls → Option W → Option (Bool × Sls × Option W)) (fb : Sls → Option W → Option Res) : Nat → Sls → Option W → Option Res
  | 0, _, _ => none
  | n + 1, s, w => (fc s w).bind fun x => if x.1 then (fb x.2.1 x.2.2).bind fun y => match y with
      | .nx s1 w1 => whL fc fb n s1 w1
      | .ct s1 w1 => whL fc fb n s1 w1
      | .bk s1 w1 => some (.nx s1 w1)
      | .rt d1 w1 => some (.rt d1 w1)
    else some (.nx x.2.1 x.2.2)
def lstsD : List D → Option (List (List D))
  | [] => some []
  | .lst x :: r => (lstsD r).map (x :: ·)
  | _ :: _ => none
section
variable (F : Orc)
def evM (m : E) : Md → Sls → Option W → Option (D × Sls × Option W)
  | .pk, s, w => (ev F m (vwS (fzA s)) w).bind fun x => if isSc x.1 then some (x.1, s, x.2) else none
  | .fz js, s, w => (ev F m (vwS (frz js s)) w).map fun x => (x.1, frz js s, x.2)
  | .al, s, w => (ev F m (vwS (fzA s)) w).map fun x => (x.1, fzA s, x.2)
def evsM (ms : List E) : Md → Sls → Option W → Option (List D × Sls × Option W)
  | .pk, s, w => (evs F ms (vwS (fzA s)) w).bind fun x => if x.1.all isSc then some (x.1, s, x.2) else none
  | .fz js, s, w => (evs F ms (vwS (frz js s)) w).map fun x => (x.1, frz js s, x.2)
  | .al, s, w => (evs F ms (vwS (fzA s)) w).map fun x => (x.1, fzA s, x.2)
/-- a place of a row of stores -/
def evP (p : PM) (s : Sls) (w : Option W) : Option (Sl × Sls × Option W) :=
  match p.k with
  | .fr => (evM F p.m p.md s w).map fun x => (.fr x.1, x.2)
  | .l => (evM F p.m p.md s w).bind fun x => (asLs x.1).map fun ds => (.l ds, x.2)
  | .d => some (.dt [], s, w)
def evPs : List PM → Sls → Option W → Option (List Sl × Sls × Option W)
  | [], s, w => some ([], s, w)
  | p :: ps, s, w => (evP F p s w).bind fun x => (evPs ps x.2.1 x.2.2).map fun y => (x.1 :: y.1, y.2)
def setPs : List PM → List Sl → Sls → Sls
  | p :: ps, sl :: sls, s => setPs ps sls (s.set p.i sl)
  | _, _, s => s
def storesF : List Tx → List D → Sls → Option W → Option (Sls × Option W)
  | [], [], s, w => some (s, w)
  | .n j :: ts, d :: ds, s, w => if j < s.length then storesF ts ds (s.set j (.fr d)) w else none
  | .c i a :: ts, d :: ds, s, w => (evM F a .pk s w).bind fun y => (y.2.1[i]?).bind fun sl => sl.asL.bind fun l => (asI y.1).bind fun k => (ixN l.length k).bind fun jj => storesF ts ds (y.2.1.set i (.l (l.set jj d))) y.2.2
  | _, _, _, _ => none
mutual
def rs : Sx → Sls → Option W → Option Res
  | .never, _, _ => none
  | .set i md m, s, w => (evM F m md s w).map fun x => .nx (x.2.1.set i (.fr x.1)) x.2.2
  | .new1 i md m, s, w => (evM F m md s w).bind fun x => (asLs x.1).map fun ds => .nx (x.2.1.set i (.l ds)) x.2.2
  | .new2 i md m, s, w => (evM F m md s w).bind fun x => (asLs x.1).bind fun ds => (lstsD ds).map fun dss => .nx (x.2.1.set i (.ll dss)) x.2.2
  | .newD i, s, w => some (.nx (s.set i (.dt [])) w)
  | .unp tg md m, s, w => (evM F m md s w).bind fun x => (bindS tg x.1 x.2.1).map fun s1 => .nx s1 x.2.2
  | .par ps, s, w => (evPs F ps s w).map fun x => .nx (setPs ps x.1 x.2.1) x.2.2
  | .aug i op m, s, w => (s[i]?).bind fun sl => (sl.vw).bind fun d => (asI d).bind fun a => (evM F m .pk s w).bind fun x => (asI x.1).bind fun b => (augI op a b).map fun c => .nx (x.2.1.set i (.fr (.int c))) x.2.2
  | .app i md m, s, w => (evM F m md s w).bind fun x => (x.2.1[i]?).bind fun sl => sl.asL.bind fun ds => if ds.length < sizeLine then some (.nx (x.2.1.set i (.l (ds ++ [x.1]))) x.2.2) else none
  | .put1 i md m a, s, w => (evM F m md s w).bind fun x => (evM F a .pk x.2.1 x.2.2).bind fun y => (y.2.1[i]?).bind fun sl => sl.asL.bind fun ds => (asI y.1).bind fun k => (ixN ds.length k).map fun j => .nx (y.2.1.set i (.l (ds.set j x.1))) y.2.2
  | .put2 i m a b, s, w => (evM F m .pk s w).bind fun x => (evM F a .pk x.2.1 x.2.2).bind fun y => (evM F b .pk y.2.1 y.2.2).bind fun z => (z.2.1[i]?).bind fun sl => sl.asLL.bind fun dss => (asI y.1).bind fun k => (asI z.1).bind fun l =>
      (ixN dss.length k).bind fun j => (dss[j]?).bind fun ds => (ixN ds.length l).map fun jj => .nx (z.2.1.set i (.ll (dss.set j (ds.set jj x.1)))) z.2.2
  | .putD i m a, s, w => (evM F m .pk s w).bind fun x => (evM F a (.fz []) x.2.1 x.2.2).bind fun y => (y.2.1[i]?).bind fun sl => sl.asT.bind fun kvs => (asTu y.1).bind fun ks => (keysD ks).bind fun k => if kvs.length < sizeLine then some (.nx (y.2.1.set i (.dt (putT kvs k x.1))) y.2.2) else none
  | .ext i md m, s, w => (evM F m md s w).bind fun x => (asLs x.1).bind fun es => (x.2.1[i]?).bind fun sl => sl.asL.bind fun ds => if okLen (ds.length + es.length) then some (.nx (x.2.1.set i (.l (ds ++ es))) x.2.2) else none
  | .parS ts es, s, w => (evsM F es .pk s w).bind fun x => (storesF F ts x.1 x.2.1 x.2.2).map fun y => .nx y.1 y.2
  | .rowSet k m, s, w => (evM F m .pk s w).bind fun x => x.2.2.bind fun z => (asI x.1).bind fun i => (setRow z k i).map fun z' => .nx x.2.1 (some z')
  | .expr md m, s, w => (evM F m md s w).map fun x => .nx x.2.1 x.2.2
  | .ifS c a b, s, w => (evM F c .pk s w).bind fun x => (isBl x.1).bind fun t => if t then rss a x.2.1 x.2.2 else rss b x.2.1 x.2.2
  | .forS tg ik md ms body, s, w => (evsM F ms md s w).bind fun x => (itemsD ik x.1).bind fun its => forL (fun d s1 w1 => (bindS tg d s1).bind fun s2 => rss body s2 w1) its x.2.1 x.2.2
  | .whileS fu c body, s, w => whL (fun s1 w1 => (evM F c .pk s1 w1).bind fun x => (isBl x.1).map (·, x.2.1, x.2.2)) (fun s1 w1 => rss body s1 w1) fu s w
  | .ret m, s, w => (evM F m .al s w).map fun x => .rt x.1 x.2.2
  | .retN, _, w => some (.rt .non w)
  | .brk, s, w => some (.bk s w)
  | .cont, s, w => some (.ct s w)
def rss : List Sx → Sls → Option W → Option Res
  | [], s, w => some (.nx s w)
  | x :: xs, s, w => (rs x s w).bind fun y => match y with
      | .nx s1 w1 => rss xs s1 w1
      | r => some r
end
end

/-! ### it matches -/
def tgB (S : Cs) (i : Nat) (x : Str) : Bool := decide (S.N[i]? = some x) && locB S x && decide (S.ir ≠ some i)
def isLC : Expr → Bool
  | .ListComp _ _ _ _ => true
  | .SetComp _ _ _ _ => true
  | .DictComp _ _ _ _ _ => true
  | _ => false
def lcB (S : Cs) (y : Str) (py : Pos) (e : Expr) : Bool :=
  match e with
  | .ListComp _ _ scope pos => decide (S.sc.names.lookup y ≠ some .local) || decide (S.sc.kind = .function) && decide (S.sc.names.lookup y = some .local) && (py.line == pos.line) && !(scope.names.any fun (n, k) => n == y && (k == .local || k == .cell))
  | _ => !isLC e
def isTupE : Expr → Bool
  | .Tuple _ _ _ => true
  | _ => false
def swP (sc : Scope) (ts vs : List Expr) : Option (Option (List Str)) :=
  if !(ts.length == 2 || ts.length == 3) || vs.length != ts.length then some none else
  if vs.any (fun | .Starred .. => true | _ => false) then some none else
  let line := (ts.head?.map (·.pos.line)).getD 0
  let names := ts.filterMap fun
    | .Name id pos => if sc.names.lookup id == some .local && pos.line == line then some id else none
    | _ => none
  if names.length != ts.length || names.eraseDups.length != names.length then some none else
  if vs.all (foldedForSure 8) then some none else
  if vs.all (constantsAlone 8) then none else some (some names)
section
variable (T : Tbl)
def chkPs (S : Cs) : List PM → List Expr → List Expr → Bool
  | [], ts, es => ts.isEmpty && es.isEmpty
  | p :: ps, ts, es => (match ts, es with
      | .Name x _ :: ts, e :: es => tgB S p.i x && notStar e
          && (match p.k with | .fr => chkE T p.m S e | .l => mkLst p.m && chkE T p.m S e | .d => (match e with | .Dict [] [] _ => true | _ => false)) && chkPs S ps ts es
      | _, _ => false)
def chkTx (S : Cs) : Tx → Expr → Bool
  | .n j, e => (match e with | .Name x _ => tgB S j x | _ => false)
  | .c i a, e => (match e with | .Subscript (.Name x _) ea _ => nmB S i x && notSlice ea && chkE T a S ea | _ => false)
def chkTxs (S : Cs) : List Tx → List Expr → Bool
  | [], es => es.isEmpty
  | t :: ts, es => (match es with | e :: es => notStar e && chkTx T S t e && chkTxs S ts es | [] => false)
def namesOf : List Expr → List Str
  | .Name x _ :: r => x :: namesOf r
  | _ => []
mutual
def chkS : Sx → Cs → Stmt → Bool
  | .never, _, _ => true
  | .set i _ m, S, st => (match st with | .Assign [.Name x px] e _ => tgB S i x && lcB S x px e && chkE T m S e | _ => false)
  | .new1 i _ m, S, st => (match st with | .Assign [.Name x px] e _ => tgB S i x && lcB S x px e && mkLst m && chkE T m S e | _ => false)
  | .new2 i _ m, S, st => (match st with | .Assign [.Name x px] e _ => tgB S i x && lcB S x px e && (match m with | .comp _ _ _ _ _ elt => mkLst elt | _ => false) && chkE T m S e | _ => false)
  | .newD i, S, st => (match st with | .Assign [.Name x px] (.Dict [] [] _) _ => tgB S i x | _ => false)
  | .unp tg _ m, S, st => (match st with
      | .Assign [.Tuple ts kt pt] e _ => chkG S tg (.Tuple ts kt pt) && (!isTupE e || (match e with | .Tuple vs _ _ => decide (S.sc.kind = .function) && decide (swP S.sc ts vs = some none) | _ => false)) && chkE T m S e && (match S.ir with | some i => decide (i ∉ tg.slots) | none => true)
      | _ => false)
  | .par ps, S, st => (match st with
      | .Assign [.Tuple ts _ _] (.Tuple es _ _) _ => decide (S.sc.kind = .function) && decide (ps.length = 2 ∨ ps.length = 3) && decide ((ps.map (·.i)).Nodup) && chkPs T S ps ts es
          && ((decide (swP S.sc ts es = some (some (namesOf ts))) && (namesOf ts).all fun x => decide (S.sc.names.lookup x = some .local)) || decide (swP S.sc ts es = some none))
      | _ => false)
  | .aug i op m, S, st => (match st with | .AugAssign (.Name x _) op' e _ => decide (op = op') && tgB S i x && chkE T m S e | _ => false)
  | .app i _ m, S, st => (match st with
      | .Expr (.Call (.Attribute (.Name x _) n ap) [e] [] cp) _ => decide (n = ("append" : Str)) && nmB S i x && (ap.endLine == cp.line) && notStar e && chkE T m S e
      | _ => false)
  | .put1 i _ m a, S, st => (match st with | .Assign [.Subscript (.Name x _) ea _] e _ => nmB S i x && !isLC e && notSlice ea && chkE T m S e && chkE T a S ea | _ => false)
  | .put2 i m a b, S, st => (match st with | .Assign [.Subscript (.Subscript (.Name x _) ea _) eb _] e _ => nmB S i x && !isLC e && notSlice ea && notSlice eb && chkE T m S e && chkE T a S ea && chkE T b S eb | _ => false)
  | .putD i m a, S, st => (match st with | .Assign [.Subscript (.Name x _) ea _] e _ => nmB S i x && !isLC e && notSlice ea && chkE T m S e && chkE T a S ea | _ => false)
  | .ext i _ m, S, st => (match st with
      | .Expr (.Call (.Attribute (.Name x _) n ap) [e] [] cp) _ => decide (n = ("extend" : Str)) && nmB S i x && (ap.endLine == cp.line) && notStar e && chkE T m S e
      | _ => false)
  | .parS ts ms, S, st => (match st with
      | .Assign [.Tuple tes _ _] (.Tuple es _ _) _ => decide (S.sc.kind = .function) && decide (swP S.sc tes es = some none) && decide (ms.length = 2 ∨ ms.length = 3) && decide (ts.length = ms.length) && chkTxs T S ts tes && chkEs T ms S es
      | _ => false)
  | .rowSet k m, S, st => (match st with | .Assign [.Subscript (.Name x _) (.Constant (.int c) _ _) _] e _ => (match S.ir with | some i => nmB S i x | none => false) && decide (c = (k : Int)) && !isLC e && chkE T m S e | _ => false)
  | .expr _ m, S, st => (match st with | .Expr e _ => !isLC e && chkE T m S e | _ => false)
  | .ifS c a b, S, st => (match st with | .If e p q _ => noIf e && chkE T c S e && chkSs a S p && chkSs b S q | _ => false)
  | .forS tg ik _ ms body, S, st => (match st with
      | .For te ie b [] _ => notSet ie && chkI T S (fun l => chkEs T ms S l) ik te ie && chkG S tg te && (match S.ir with | some i => decide (i ∉ tg.slots) | none => true) && chkSs body S b
      | _ => false)
  | .whileS _ c body, S, st => (match st with | .While e b [] _ => noIf e && chkE T c S e && chkSs body S b | _ => false)
  | .ret m, S, st => (match st with | .Return (some e) _ => chkE T m S e | _ => false)
  | .retN, _, st => (match st with | .Return none _ => true | _ => false)
  | .brk, _, st => (match st with | .Break _ => true | _ => false)
  | .cont, _, st => (match st with | .Continue _ => true | _ => false)
def chkSs : List Sx → Cs → List Stmt → Bool
  | [], _, st => st.isEmpty
  | x :: xs, S, st => (match st with | t :: ts => chkS x S t && chkSs xs S ts | [] => false)
end
end
end Lt

set_option Elab.async false
set_option linter.all false
set_option maxRecDepth 100000
set_option maxHeartbeats 8000000
/-! LtK: statements: the rules. -/
namespace Lt
open PySem PySem.Spec PyProof.Rows L2
section
variable {K : PySem.W.Frag} {ir : Option Nat} {B : Bs} {σ : St} {H G H' G' : Hp} {s s' : Sls} {w w' : Option W} {own : Own} {F : Orc}
theorem none_of {H H' : Hp} {p : Addr} (m : ∀ p, H p ≠ none → H' p ≠ none) (h : H' p = none) : H p = none := by
  cases z : H p with
  | none => rfl
  | some o => exact absurd h (m p (by rw [z]; exact fun z => nomatch z))
theorem Kp.next {G1 : Hp} (R : Rel K ir B σ H s w G1 own) (x : Ext B.r H G1 H' G') : Kp B H G1 own H' G' own :=
  ⟨x.g, fun p h => by
    obtain ⟨h1, h2, h3, h4⟩ := h
    have e : H' p = H p := by
      cases z : H p with
      | none => exact absurd z h1.ne
      | some o => exact x.f p o (R.off h4) z
    refine ⟨⟨h1.eq e, ?_, h3, h4⟩, e⟩
    cases z : G' p with
    | none => rfl
    | some o => exact absurd h2 (x.n p (R.off h4) h1 (by rw [z]; exact fun z => nomatch z)), fun p j h => .inl h⟩
theorem Kp.peek {G1 H'' G'' : Hp} (R : Rel K ir B σ H s w G own) (x : Ext B.r H G1 H' G') : Kp B H G own H' G own :=
  ⟨.refl _, fun p h => by
    obtain ⟨h1, h2, h3, h4⟩ := h
    have e : H' p = H p := by
      cases z : H p with
      | none => exact absurd z h1.ne
      | some o => exact x.f p o (R.off h4) z
    exact ⟨⟨h1.eq e, h2, h3, h4⟩, e⟩, fun p j h => .inl h⟩
theorem rep_sc {G G' : Hp} {v : V} {d : D} (h : isSc d = true) (r : Rep G v d) : Rep G' v d := by
  cases r <;> first
    | exact .non
    | exact .bl _
    | exact .int _
    | exact .str _
    | cases h
theorem reps_sc {G G' : Hp} : ∀ {vs : List V} {ds : List D}, ds.all isSc = true → Reps G vs ds → Reps G' vs ds
  | _, _, _, .nil => .nil
  | _, _, h, .cons r rs => by
    rw [List.all_cons, Bool.and_eq_true] at h
    exact .cons (rep_sc h.1 r) (reps_sc h.2 rs)
/-- the heart: an expression is read in its way -/
theorem ev_md {m : E} {md : Md} (R : Rel K ir B σ H s w G own) {d : D} (e : evM F m md s w = some (d, s', w')) :
    ∃ G1 ρ, Pre K ir σ H G1 B.r ρ w ∧ ev F m ρ w = some (d, w') ∧ ∀ v H' G1', Ext B.r H G1 H' G1' → RowOk K B.r H' G1' w' → Rep G1' v d →
      ∃ G' own', Rel K ir B σ H' s' w' G' own' ∧ Kp B H G own H' G' own' ∧ Rep G' v d := by
  cases md with
  | pk =>
    simp only [evM, Option.bind_eq_some_iff] at e
    obtain ⟨⟨d0, w0⟩, e1, e2⟩ := e
    split at e2
    · rename_i hs
      cases e2
      obtain ⟨G1, own1, kp, R1⟩ := R.fz fun _ => true
      exact ⟨G1, _, R1.pre, e1, fun v H' G1' x o rp => ⟨G, own, R.peek kp.g x o, Kp.peek (H'' := H') (G'' := G) R x, rep_sc hs rp⟩⟩
    · cases e2
  | fz js =>
    simp only [evM, Option.map_eq_some_iff] at e
    obtain ⟨⟨d0, w0⟩, e1, e2⟩ := e
    cases e2
    obtain ⟨G1, own1, kp, R1⟩ := R.fz fun i => js.contains i
    exact ⟨G1, _, R1.pre, e1, fun v H' G1' x o rp => ⟨G1', own1, R1.next x o, kp.trans (Kp.next R1 x) fun p h => h, rp⟩⟩
  | al =>
    simp only [evM, Option.map_eq_some_iff] at e
    obtain ⟨⟨d0, w0⟩, e1, e2⟩ := e
    cases e2
    obtain ⟨G1, own1, kp, R1⟩ := R.fz fun _ => true
    exact ⟨G1, _, R1.pre, e1, fun v H' G1' x o rp => ⟨G1', own1, R1.next x o, kp.trans (Kp.next R1 x) fun p h => h, rp⟩⟩
/-- with what is new still new -/
theorem ev_md1 {m : E} {md : Md} (R : Rel K ir B σ H s w G own) {ds : List D} (e : evM F m md s w = some (.lst ds, s', w')) :
    ∃ G1 ρ, Pre K ir σ H G1 B.r ρ w ∧ ev F m ρ w = some (.lst ds, w') ∧ ∀ H' G1', Ext B.r H G1 H' G1' → RowOk K B.r H' G1' w' →
      ∃ own', Rel K ir B σ H' s' w' G1' own' ∧ Kp B H G own H' G1' own' ∧ ∀ p, H p = none → NT H' p → G1' p = none → Fresh B H' G1' own' p := by
  have fin : ∀ (P : Nat → Bool) (w1 : Option W), ∃ G1, Pre K ir σ H G1 B.r (vwS (fzG P 0 s)) w ∧ ∀ H' G1', Ext B.r H G1 H' G1' → RowOk K B.r H' G1' w1 →
      ∃ own', Rel K ir B σ H' (fzG P 0 s) w1 G1' own' ∧ Kp B H G own H' G1' own' ∧ ∀ p, H p = none → NT H' p → G1' p = none → Fresh B H' G1' own' p := fun P w1 => by
    obtain ⟨G1, own1, kp, R1⟩ := R.fz P
    refine ⟨G1, R1.pre, fun H' G1' x o => ⟨own1, R1.next x o, kp.trans (Kp.next R1 x) fun p h => h, fun p h1 h2 h3 => ⟨h2, h3, ?_, none_of R.ext.m h1⟩⟩⟩
    cases z : own1 p with
    | none => rfl
    | some j => exact absurd h1 (R1.own p j z).2.1.ne
  cases md with
  | pk =>
    simp only [evM, Option.bind_eq_some_iff] at e
    obtain ⟨⟨d0, w0⟩, e1, e2⟩ := e
    split at e2
    · rename_i hs
      cases e2
      cases hs
    · cases e2
  | fz js =>
    simp only [evM, Option.map_eq_some_iff] at e
    obtain ⟨⟨d0, w0⟩, e1, e2⟩ := e
    cases e2
    obtain ⟨G1, h1, h2⟩ := fin (fun i => js.contains i) w0
    exact ⟨G1, _, h1, e1, h2⟩
  | al =>
    simp only [evM, Option.map_eq_some_iff] at e
    obtain ⟨⟨d0, w0⟩, e1, e2⟩ := e
    cases e2
    obtain ⟨G1, h1, h2⟩ := fin (fun _ => true) w0
    exact ⟨G1, _, h1, e1, h2⟩
theorem evM_sc {m : E} {d : D} (e : evM F m .pk s w = some (d, s', w')) : isSc d = true ∧ s' = s := by
  simp only [evM, Option.bind_eq_some_iff] at e
  obtain ⟨⟨d0, w0⟩, e1, e2⟩ := e
  split at e2
  · rename_i hs
    cases e2
    exact ⟨hs, rfl⟩
  · cases e2
/-- new things are given to a slot -/
theorem Rel.give (R : Rel K ir B σ H s w G own) {i : Nat} {v : V} {sl : Sl} (L : List Addr) (fr : ∀ p ∈ L, Fresh B H G own p) (hi : i < s.length) (hr : ir ≠ some i)
    (k : SlOk G H (fun q => if q ∈ L then some i else own q) i (some (some v)) sl) : Rel K ir B (σ.set i (some v)) H (s.set i sl) w G (fun q => if q ∈ L then some i else own q) := by
  refine ⟨R.ext, R.row, fun j sl' e => ?_, R.row0, fun a t ns e => ?_, by rw [List.length_set, List.length_set]; exact R.len, fun p j e => ?_⟩
  · by_cases hj : i = j
    · subst hj
      rw [List.getElem?_set_self hi] at e
      cases e
      rw [List.getElem?_set_self (Nat.lt_of_lt_of_le (R.len.1 ▸ hi) R.len.2)]
      exact k
    · rw [List.getElem?_set_ne hj] at e ⊢
      refine (R.var j sl' e).move (.refl _) fun p q => ⟨?_, rfl⟩
      rw [if_neg (fun z => by rw [(fr p z).2.2.1] at q; cases q)]
      exact q
  · obtain ⟨i', h1, h2⟩ := R.rowv a t ns e
    refine ⟨i', h1, ?_⟩
    rw [List.getElem?_set_ne (fun z => hr (by rw [z]; exact h1))]
    exact h2
  · by_cases hp : p ∈ L
    · obtain ⟨h1, h2, h3, h4⟩ := fr p hp
      exact ⟨h2, h1, h4⟩
    · have e : (if p ∈ L then some i else own p) = some j := e
      rw [if_neg hp] at e
      exact R.own p j e
end
/-- what is wanted at a statement's end -/
def Fin (K : PySem.W.Frag) (ir : Option Nat) (B : Bs) (D : Ends) : Res → Prop
  | .nx s w => ∀ σ H G own, Rel K ir B σ H s w G own → D.nx σ H
  | .bk s w => ∀ σ H G own, Rel K ir B σ H s w G own → D.bk σ H
  | .ct s w => ∀ σ H G own, Rel K ir B σ H s w G own → D.ct σ H
  | .rt d w => ∀ v H G, Ext B.r B.H0 B.G0 H G → RowOk K B.r H G w → Rep G v d → D.rt v H
section
variable (F : Orc) (K : PySem.W.Frag) (ir : Option Nat) (n : Nat)
def TSt (m : Sx) : TS := fun D σ H => ∃ B s w G own res, B.n = n ∧ Rel K ir B σ H s w G own ∧ rs F m s w = some res ∧ Fin K ir B D res
def TSs (m : List Sx) : TS := fun D σ H => ∃ B s w G own res, B.n = n ∧ Rel K ir B σ H s w G own ∧ rss F m s w = some res ∧ Fin K ir B D res
end
theorem PS.imp {X : Cx} {e : Stmt} {t t' : TS} (h : PS X e t) (f : ∀ D σ H, t' D σ H → t D σ H) : PS X e t' := ⟨fun pins s σ H D I q => h.run pins s σ H D I (f D σ H q)⟩
theorem PSs.imp {X : Cx} {e : List Stmt} {t t' : TS} (h : PSs X e t) (f : ∀ D σ H, t' D σ H → t D σ H) : PSs X e t' := ⟨fun pins s σ H D I q => h.run pins s σ H D I (f D σ H q)⟩
section
variable {X : Cx} {F : Orc} {ir : Option Nat} {n : Nat} {st : Stmt} {rest : List Stmt} {m : Sx} {ms : List Sx} {T : TE} {e : E} {i : Nat} {md : Md} {pos : Pos}
theorem k_nil : PSs X [] (TSs F X.K ir n []) := PSs.imp pss_nil fun D σ H h => by
  obtain ⟨B, s, w, G, own, res, hn, R, e, f⟩ := h
  simp only [rss] at e; cases e
  exact f σ H G own R
theorem k_cons (h1 : PS X st (TSt F X.K ir n m)) (h2 : PSs X rest (TSs F X.K ir n ms)) : PSs X (st :: rest) (TSs F X.K ir n (m :: ms)) := PSs.imp (pss_cons h1 h2) fun D σ H h => by
  obtain ⟨B, s, w, G, own, res, hn, R, e, f⟩ := h
  simp only [rss, Option.bind_eq_some_iff] at e
  obtain ⟨r0, e1, e2⟩ := e
  refine ⟨B, s, w, G, own, r0, hn, R, e1, ?_⟩
  cases r0 with
  | nx s1 w1 => exact fun σ1 H1 G1 own1 R1 => ⟨B, s1, w1, G1, own1, res, hn, R1, e2, f⟩
  | rt d w1 => cases e2; exact f
  | bk s1 w1 => cases e2; exact f
  | ct s1 w1 => cases e2; exact f
theorem k_never : PS X st (TSt F X.K ir n .never) := PS.imp ps_never fun D σ H h => by
  obtain ⟨B, s, w, G, own, res, hn, R, e, f⟩ := h
  simp only [rs] at e; cases e
theorem k_set (hT : ∀ σ H Q, RE F X.K ir e σ H Q → T σ H Q) (hp : PS X st (tAsg T (gName i))) (hi : i < n) (hr : ir ≠ some i) : PS X st (TSt F X.K ir n (.set i md e)) := PS.imp hp fun D σ H h => by
  obtain ⟨B, s, w, G, own, res, hn, R, e, f⟩ := h
  simp only [rs, Option.map_eq_some_iff] at e
  obtain ⟨⟨d, s1, w1⟩, e1, e2⟩ := e
  cases e2
  obtain ⟨G1, ρ, P, e3, c⟩ := ev_md R e1
  refine hT _ _ _ ⟨G1, B.r, ρ, w, d, w1, P, e3, fun v H1 G1' x o rp => ?_⟩
  obtain ⟨G2, own2, R2, _, r2⟩ := c v H1 G1' x o rp
  exact f _ _ _ _ (R2.set r2 (by rw [R2.len.1, hn]; exact hi) hr)
theorem k_new1 (hT : ∀ σ H Q, R1 F X.K ir e σ H Q → T σ H Q) (hp : PS X st (tAsg T (gName i))) (hi : i < n) (hr : ir ≠ some i) : PS X st (TSt F X.K ir n (.new1 i md e)) := PS.imp hp fun D σ H h => by
  obtain ⟨B, s, w, G, own, res, hn, R, e, f⟩ := h
  simp only [rs, Option.bind_eq_some_iff] at e
  obtain ⟨⟨d, s1, w1⟩, e1, e2⟩ := e
  obtain ⟨ds, e4, e5⟩ := Option.map_eq_some_iff.mp e2
  obtain rfl := asLs_some e4
  cases e5
  obtain ⟨G1, ρ, P, e3, c⟩ := ev_md1 R e1
  refine hT _ _ _ ⟨G1, B.r, ρ, w, ds, w1, P, e3, fun p vs H1 G1' x o hp hg hl rp => ?_⟩
  obtain ⟨own2, R2, _, fr⟩ := c H1 G1' x o
  refine f _ _ _ _ (R2.give [p] (fun q hq => ?_) (by rw [R2.len.1, hn]; exact hi) hr ?_)
  · rw [List.mem_singleton] at hq
    subst hq
    exact fr q hp ⟨_, hl, rfl⟩ hg
  · exact ⟨p, vs, rfl, if_pos (List.mem_singleton.mpr rfl), hl, rp⟩
theorem k_expr {ex : Expr} (h : PE X ex (RE F X.K ir e)) (hs : swapsWith ex none pos.line X.env = pure false) : PS X (.Expr ex pos) (TSt F X.K ir n (.expr md e)) := PS.imp (ps_expr h hs) fun D σ H h => by
  obtain ⟨B, s, w, G, own, res, hn, R, e, f⟩ := h
  simp only [rs, Option.map_eq_some_iff] at e
  obtain ⟨⟨d, s1, w1⟩, e1, e2⟩ := e
  cases e2
  obtain ⟨G1, ρ, P, e3, c⟩ := ev_md R e1
  refine ⟨G1, B.r, ρ, w, d, w1, P, e3, fun v H1 G1' x o rp => ?_⟩
  obtain ⟨G2, own2, R2, _, r2⟩ := c v H1 G1' x o rp
  exact f _ _ _ _ R2
theorem k_ret {ex : Expr} (h : PE X ex (RE F X.K ir e)) : PS X (.Return (some ex) pos) (TSt F X.K ir n (.ret e)) := PS.imp (ps_ret h) fun D σ H h => by
  obtain ⟨B, s, w, G, own, res, hn, R, e, f⟩ := h
  simp only [rs, Option.map_eq_some_iff] at e
  obtain ⟨⟨d, s1, w1⟩, e1, e2⟩ := e
  cases e2
  obtain ⟨G1, ρ, P, e3, c⟩ := ev_md R e1
  refine ⟨G1, B.r, ρ, w, d, w1, P, e3, fun v H1 G1' x o rp => ?_⟩
  obtain ⟨G2, own2, R2, _, r2⟩ := c v H1 G1' x o rp
  exact f _ _ _ R2.ext R2.row r2
theorem k_retN : PS X (.Return none pos) (TSt F X.K ir n .retN) := PS.imp ps_retN fun D σ H h => by
  obtain ⟨B, s, w, G, own, res, hn, R, e, f⟩ := h
  simp only [rs] at e; cases e
  exact f _ _ _ R.ext R.row .non
theorem k_brk : PS X (.Break pos) (TSt F X.K ir n .brk) := PS.imp ps_break fun D σ H h => by
  obtain ⟨B, s, w, G, own, res, hn, R, e, f⟩ := h
  simp only [rs] at e; cases e
  exact f _ _ _ _ R
theorem k_cont : PS X (.Continue pos) (TSt F X.K ir n .cont) := PS.imp ps_continue fun D σ H h => by
  obtain ⟨B, s, w, G, own, res, hn, R, e, f⟩ := h
  simp only [rs] at e; cases e
  exact f _ _ _ _ R
theorem k_if {c : Expr} {a b : List Stmt} {ma mb : List Sx} (hc : PT X c (RB F X.K ir e)) (ha : PSs X a (TSs F X.K ir n ma)) (hb : PSs X b (TSs F X.K ir n mb)) : PS X (.If c a b pos) (TSt F X.K ir n (.ifS e ma mb)) := PS.imp (ps_if hc ha hb) fun D σ H h => by
  obtain ⟨B, s, w, G, own, res, hn, R, e, f⟩ := h
  simp only [rs, Option.bind_eq_some_iff] at e
  obtain ⟨⟨d, s1, w1⟩, e1, t, e2, e3⟩ := e
  obtain rfl := isBl_some e2
  obtain ⟨G1, ρ, P, e4, c⟩ := ev_md R e1
  refine ⟨G1, B.r, ρ, w, t, w1, P, e4, fun H1 G1' x o => ?_⟩
  obtain ⟨G2, own2, R2, _, _⟩ := c (.bl t) H1 G1' x o (.bl t)
  cases t with
  | true => exact ⟨B, s1, w1, G2, own2, res, hn, R2, e3, f⟩
  | false => exact ⟨B, s1, w1, G2, own2, res, hn, R2, e3, f⟩
end
end Lt

set_option Elab.async false
set_option linter.all false
set_option maxRecDepth 100000
set_option maxHeartbeats 8000000
/-! LtL: statements: targets, loops, changes in place. -/
namespace Lt
open PySem PySem.Spec PyProof.Rows L2
mutual
theorem bindS_ok : ∀ (t : Tg) (d : D) (s s' : Sls), bindS t d s = some s' → bindT t d (vwS s) = some (vwS s') ∧ s'.length = s.length ∧ (∀ j, j ∉ t.slots → s'[j]? = s[j]?) ∧ ∀ j ∈ t.slots, ∃ d, s'[j]? = some (.fr d)
  | .n i, d, s, s', e => by
    simp only [bindS] at e
    split at e
    · rename_i hi
      cases e
      refine ⟨?_, List.length_set .., fun j hj => List.getElem?_set_ne fun z => hj (by simp [Tg.slots, z]), fun j hj => ?_⟩
      · simp only [bindT]
        rw [vwS_len, if_pos hi]
        unfold vwS
        rw [List.map_set]
        rfl
      · have : j = i := by simpa [Tg.slots] using hj
        subst this
        exact ⟨d, List.getElem?_set_self hi⟩
    · cases e
  | .t ts, .tup ds, s, s', e => by
    simp only [bindS] at e
    simp only [bindT]
    obtain ⟨h1, h2, h3, h4⟩ := bindSs_ok ts ds s s' e
    exact ⟨h1, h2, fun j hj => h3 j (by simpa [Tg.slots] using hj), fun j hj => h4 j (by simpa [Tg.slots] using hj)⟩
  | .t ts, .non, s, s', e => by simp [bindS] at e
  | .t ts, .bl _, s, s', e => by simp [bindS] at e
  | .t ts, .int _, s, s', e => by simp [bindS] at e
  | .t ts, .str _, s, s', e => by simp [bindS] at e
  | .t ts, .lst _, s, s', e => by simp [bindS] at e
  | .t ts, .dK _, s, s', e => by simp [bindS] at e
  | .t ts, .dT _, s, s', e => by simp [bindS] at e
theorem bindSs_ok : ∀ (ts : List Tg) (ds : List D) (s s' : Sls), bindSs ts ds s = some s' → bindTs ts ds (vwS s) = some (vwS s') ∧ s'.length = s.length ∧ (∀ j, j ∉ Tg.slotss ts → s'[j]? = s[j]?) ∧ ∀ j ∈ Tg.slotss ts, ∃ d, s'[j]? = some (.fr d)
  | [], [], s, s', e => by
    simp only [bindSs] at e; cases e
    exact ⟨rfl, rfl, fun _ _ => rfl, fun j hj => by simp [Tg.slotss] at hj⟩
  | [], _ :: _, s, s', e => by simp [bindSs] at e
  | _ :: _, [], s, s', e => by simp [bindSs] at e
  | t :: ts, d :: ds, s, s', e => by
    simp only [bindSs, Option.bind_eq_some_iff] at e
    obtain ⟨s1, e1, e2⟩ := e
    obtain ⟨h1, h2, h3, h4⟩ := bindS_ok t d s s1 e1
    obtain ⟨k1, k2, k3, k4⟩ := bindSs_ok ts ds s1 s' e2
    refine ⟨?_, k2.trans h2, fun j hj => ?_, fun j hj => ?_⟩
    · simp only [bindTs]
      rw [h1]
      exact k1
    · have hj' : j ∉ t.slots ∧ j ∉ Tg.slotss ts := by simpa [Tg.slotss] using hj
      exact (k3 j hj'.2).trans (h3 j hj'.1)
    · by_cases hq : j ∈ Tg.slotss ts
      · exact k4 j hq
      · have : j ∈ t.slots := by
          rcases (by simpa [Tg.slotss] using hj : j ∈ t.slots ∨ j ∈ Tg.slotss ts) with z | z
          · exact z
          · exact absurd z hq
        obtain ⟨d', hd⟩ := h4 j this
        exact ⟨d', (k3 j hq).trans hd⟩
end
section
variable {K : PySem.W.Frag} {ir : Option Nat} {B : Bs} {σ : St} {H G H' G' : Hp} {s s' : Sls} {w w' : Option W} {own : Own} {F : Orc}
theorem Rel.bind {tg : Tg} {d : D} {v : V} (R : Rel K ir B σ H s w G own) (e : bindS tg d s = some s') (r : Rep G v d) (hr : ∀ i, ir = some i → i ∉ tg.slots) {Q : St → Hp → Prop} (q : ∀ σ', Rel K ir B σ' H s' w G own → Q σ' H) : RT tg v σ H Q := by
  obtain ⟨h1, h2, h3, h4⟩ := bindS_ok tg d s s' e
  refine ⟨G, d, vwS s, vwS s', R.ext.s, r, fun i d h => by have := R.var i _ (vwS_get h); exact this, by rw [vwS_len, R.len.1]; exact R.len.2, h1, fun σ' l1 l2 va o => q σ' ?_⟩
  refine ⟨R.ext, R.row, fun i sl hi => ?_, R.row0, fun a t ns z => ?_, ⟨h2.trans R.len.1, by rw [l1]; exact R.len.2⟩, R.own⟩
  · by_cases hj : i ∈ tg.slots
    · obtain ⟨d', hd⟩ := h4 i hj
      rw [hd] at hi
      cases hi
      exact va i d' (by unfold vwS; rw [List.getElem?_map, hd]; rfl)
    · rw [o i hj]
      rw [h3 i hj] at hi
      exact R.var i sl hi
  · obtain ⟨i, hi, hv⟩ := R.rowv a t ns z
    exact ⟨i, hi, (o i (hr i hi)).trans hv⟩
theorem ev_mds {ms : List E} {md : Md} (R : Rel K ir B σ H s w G own) {ds : List D} (e : evsM F ms md s w = some (ds, s', w')) :
    ∃ G1 ρ, Pre K ir σ H G1 B.r ρ w ∧ evs F ms ρ w = some (ds, w') ∧ ∀ H' G1', Ext B.r H G1 H' G1' → RowOk K B.r H' G1' w' →
      ∃ G' own', Rel K ir B σ H' s' w' G' own' ∧ Kp B H G own H' G' own' ∧ ((ds.all isSc = true) ∨ G' = G1') := by
  cases md with
  | pk =>
    simp only [evsM, Option.bind_eq_some_iff] at e
    obtain ⟨⟨d0, w0⟩, e1, e2⟩ := e
    split at e2
    · rename_i hs
      cases e2
      obtain ⟨G1, own1, kp, R1⟩ := R.fz fun _ => true
      exact ⟨G1, _, R1.pre, e1, fun H' G1' x o => ⟨G, own, R.peek kp.g x o, Kp.peek (H'' := H') (G'' := G) R x, .inl hs⟩⟩
    · cases e2
  | fz js =>
    simp only [evsM, Option.map_eq_some_iff] at e
    obtain ⟨⟨d0, w0⟩, e1, e2⟩ := e
    cases e2
    obtain ⟨G1, own1, kp, R1⟩ := R.fz fun i => js.contains i
    exact ⟨G1, _, R1.pre, e1, fun H' G1' x o => ⟨G1', own1, R1.next x o, kp.trans (Kp.next R1 x) fun p h => h, .inr rfl⟩⟩
  | al =>
    simp only [evsM, Option.map_eq_some_iff] at e
    obtain ⟨⟨d0, w0⟩, e1, e2⟩ := e
    cases e2
    obtain ⟨G1, own1, kp, R1⟩ := R.fz fun _ => true
    exact ⟨G1, _, R1.pre, e1, fun H' G1' x o => ⟨G1', own1, R1.next x o, kp.trans (Kp.next R1 x) fun p h => h, .inr rfl⟩⟩
/-- only a range walks nothing but numbers -/
theorem rng_of {ik : IK} {ds its : List D} (h : ds.all isSc = true) (e : itemsD ik ds = some its) : isRng ik = true := by
  cases ik with
  | range => rfl
  | down => rfl
  | zipN =>
    cases ds with
    | nil => cases e
    | cons x r =>
      cases r with
      | nil => cases x <;> cases e
      | cons y r =>
        cases x <;> first
          | (simp [isSc] at h; done)
          | (cases e; done)
          | (cases r <;> first | (cases e; done) | (cases y <;> cases e; done))
  | plain =>
    match ds, e with
    | [x], e => cases x <;> first | (cases h; done) | (cases e; done)
  | enum =>
    match ds, e with
    | [x], e => cases x <;> first | (cases h; done) | (cases e; done)
  | zip =>
    cases ds with
    | nil => cases e
    | cons x r =>
      cases r with
      | nil => cases x <;> cases e
      | cons y r =>
        cases x <;> first
          | (simp [isSc] at h; done)
          | (cases e; done)
          | (cases r <;> first | (cases e; done) | (cases y <;> cases e; done))
end
section
variable {X : Cx} {F : Orc} {ir : Option Nat} {n : Nat} {st : Stmt} {e : E} {i : Nat} {md : Md} {pos : Pos}
theorem k_unp {tg : Tg} {te ex : Expr} (he : PE X ex (RE F X.K ir e)) (hg : PG X te (RT tg)) (hs : swapsWithSole [te] ex pos.line X.env = pure false) (hw : swappedStores [te] ex X.env = pure none) (h1 : (assignEach [te] X.env).map (·.2) = [assign te X.env])
    (hr : ∀ i, ir = some i → i ∉ tg.slots) : PS X (.Assign [te] ex pos) (TSt F X.K ir n (.unp tg md e)) := PS.imp (ps_asg he hg hs hw h1) fun D σ H h => by
  obtain ⟨B, s, w, G, own, res, hn, R, e, f⟩ := h
  simp only [rs, Option.bind_eq_some_iff, Option.map_eq_some_iff] at e
  obtain ⟨⟨d, s1, w1⟩, e1, s2, e2, e3⟩ := e
  cases e3
  obtain ⟨G1, ρ, P, e4, c⟩ := ev_md R e1
  refine ⟨G1, B.r, ρ, w, d, w1, P, e4, fun v H1 G1' x o rp => ?_⟩
  obtain ⟨G2, own2, R2, _, r2⟩ := c v H1 G1' x o rp
  exact R2.bind e2 r2 hr fun σ' R3 => f _ _ _ _ R3
theorem k_for {tg : Tg} {ik : IK} {ms : List E} {te ie : Expr} {body : List Stmt} {mb : List Sx} (hp : PassesOwn (model X.prog X.w) X.A X.env X.xe) (hc : X.calm = true) (hi : PI X te ie (RI F X.K ir ik ms)) (hg : PG X te (RT tg)) (hb : PSs X body (TSs F X.K ir n mb))
    (hs : ∀ x, foldedSetIterable ie X.env x = pure x) (hr : ∀ i, ir = some i → i ∉ tg.slots) : PS X (.For te ie body [] pos) (TSt F X.K ir n (.forS tg ik md ms mb)) := PS.imp (ps_for hp hc hi hg hb hs) fun D σ H h => by
  obtain ⟨B, s, w, G, own, res, hn, R, e, f⟩ := h
  simp only [rs, Option.bind_eq_some_iff] at e
  obtain ⟨⟨ds, s1, w1⟩, e1, its, e2, e3⟩ := e
  dsimp only at e2 e3
  obtain ⟨G1, ρ, P, e4, c⟩ := ev_mds R e1
  refine ⟨G1, B.r, ρ, w, ds, w1, its, P, e4, e2, fun J H1 G1' Gw x1 o1 gw hrng wk => ?_⟩
  obtain ⟨G2, own2, R2, _, hG⟩ := c H1 G1' x1 o1
  have gw2 : Same Gw G2 := by
    rcases hG with z | z
    · rw [hrng (rng_of z e2)]; exact fun _ _ e => nomatch e
    · rw [z]; exact gw
  have down : ∀ {σ' H' s' w' G' own'}, Rel X.K ir { B with G0 := G2 } σ' H' s' w' G' own' → Rel X.K ir B σ' H' s' w' G' own' := fun R' => Rel.down (G1 := G2) R2.ext.g R2.ext.n R2.row0 R'
  refine for_it wk (fun i σ H => ∃ G own s w, Rel X.K ir { B with G0 := G2 } σ H s w G own ∧ forL (fun d s1 w1 => (bindS tg d s1).bind fun s2 => rss F mb s2 w1) (its.drop i) s w = some res) ?_ ?_ ?_ ?_
  · exact ⟨G2, own2, s1, w1, R2.up, e3⟩
  · rintro i σ' H' hi ⟨G3, own3, s3, w3, R3, _⟩
    exact gw2.trans (R3.ext.g.trans R3.ext.s)
  · rintro i x σ' H3 H4 hi ⟨G3, own3, s3, w3, R3, e5⟩ y
    obtain ⟨d, G4, hd, g4, r4⟩ := y.use (gw2.trans R3.ext.g) R3.ext.s
    have hdrop : its.drop i = d :: its.drop (i + 1) := by
      rw [List.drop_eq_getElem_cons hi]
      congr 1
      rw [List.getElem?_eq_getElem hi] at hd
      exact Option.some.inj hd
    rw [hdrop] at e5
    simp only [forL, Option.bind_eq_some_iff] at e5
    obtain ⟨r0, ⟨s5, e6, e7⟩, e8⟩ := e5
    have R4 := R3.next g4.ext (R3.row.grow g4)
    refine R4.bind e6 r4 hr fun σ5 R5 => ⟨{ B with G0 := G2 }, s5, w3, G4, own3, r0, hn, R5, e7, ?_⟩
    cases r0 with
    | nx s6 w6 => exact fun σ6 H6 G6 own6 R6 => ⟨G6, own6, s6, w6, R6, e8⟩
    | ct s6 w6 => exact fun σ6 H6 G6 own6 R6 => ⟨G6, own6, s6, w6, R6, e8⟩
    | bk s6 w6 =>
      cases e8
      exact fun σ6 H6 G6 own6 R6 => f _ _ _ _ (down R6)
    | rt d6 w6 =>
      cases e8
      exact fun v H6 G6 x6 o6 r6 => f v H6 G6 ⟨R2.ext.g.trans x6.g, x6.s, x6.f, fun p h0 h1 h2 => R2.ext.n p h0 h1 (x6.n p h0 h1 h2), x6.m⟩ o6 r6
  · rintro σ' H' ⟨G3, own3, s3, w3, R3, e5⟩
    rw [List.drop_length] at e5
    simp only [forL] at e5
    cases e5
    exact f _ _ _ _ (down R3)
theorem k_while {c : Expr} {body : List Stmt} {fu : Nat} {mb : List Sx} (hp : PassesOwn (model X.prog X.w) X.A X.env X.xe) (hc : PT X c (RB F X.K ir e)) (hb : PSs X body (TSs F X.K ir n mb)) : PS X (.While c body [] pos) (TSt F X.K ir n (.whileS fu e mb)) := PS.imp (ps_while hp hc hb) fun D σ H h => by
  obtain ⟨B, s, w, G, own, res, hn, R, e, f⟩ := h
  simp only [rs] at e
  refine ⟨fun m σ H => ∃ G own s w, Rel X.K ir B σ H s w G own ∧ whL (fun s1 w1 => (evM F _ .pk s1 w1).bind fun x => (isBl x.1).map (·, x.2.1, x.2.2)) (fun s1 w1 => rss F mb s1 w1) m s w = some res, ⟨fu, G, own, s, w, R, e⟩, ?_⟩
  rintro m σ1 H1 ⟨G1, own1, s1, w1, R1, e1⟩
  cases m with
  | zero => cases e1
  | succ m =>
    simp only [whL, Option.bind_eq_some_iff, Option.map_eq_some_iff] at e1
    obtain ⟨⟨t, s2, w2⟩, ⟨⟨d, s3, w3⟩, e2, t', e3, e4⟩, e5⟩ := e1
    obtain rfl := isBl_some e3
    cases e4
    obtain ⟨G2, ρ, P, e6, cc⟩ := ev_md R1 e2
    refine ⟨G2, B.r, ρ, w1, _, _, P, e6, fun H2 G2' x o => ?_⟩
    obtain ⟨G3, own3, R3, _, _⟩ := cc (.bl _) H2 G2' x o (.bl _)
    cases t with
    | true =>
      rw [if_pos rfl]
      simp only [if_true, Option.bind_eq_some_iff] at e5
      obtain ⟨r0, e7, e8⟩ := e5
      refine ⟨fun σ' H' => ∃ G own s w, Rel X.K ir B σ' H' s w G own ∧ whL (fun s1 w1 => (evM F _ .pk s1 w1).bind fun x => (isBl x.1).map (·, x.2.1, x.2.2)) (fun s1 w1 => rss F mb s1 w1) m s w = some res, fun σ' H' h => ⟨m, Nat.lt_succ_self m, h⟩, B, _, _, G3, own3, r0, hn, R3, e7, ?_⟩
      cases r0 with
      | nx s6 w6 => exact fun σ6 H6 G6 own6 R6 => ⟨G6, own6, s6, w6, R6, e8⟩
      | ct s6 w6 => exact fun σ6 H6 G6 own6 R6 => ⟨G6, own6, s6, w6, R6, e8⟩
      | bk s6 w6 =>
        cases e8
        exact fun σ6 H6 G6 own6 R6 => f _ _ _ _ R6
      | rt d6 w6 =>
        cases e8
        exact fun v H6 G6 x6 o6 r6 => f v H6 G6 x6 o6 r6
    | false =>
      rw [if_neg Bool.false_ne_true]
      simp only [Bool.false_eq_true, if_false] at e5
      cases e5
      exact f _ _ _ _ R3
theorem ip_mul : PIp X .Mult (fun x y H Q => ∃ i j : Int, x = .int i ∧ y = .int j ∧ CMul i j ∧ Q (.int (i * j)) H) := by
  intro pins s σ H x y v u Q I r1 r2 h
  obtain ⟨i, j, rfl, rfl, c, q⟩ := h
  obtain ⟨t, rfl⟩ := r1
  obtain ⟨t', rfl⟩ := r2
  exact PySem.P.imul_int ⟨.int _, H, I.tok _, ⟨_, rfl⟩, q⟩ c.ok
theorem k_aug {x : Str} {p : Pos} {op : Operator} {ex : Expr} (hN : X.N.Nodup) (hi : X.N[i]? = some x) (hx : Loc X.env.scope x) (he : PE X ex (RE F X.K ir e)) (hf : X.fn x = true ∨ X.env.scope.names.lookup x = some .local) (hr : ir ≠ some i) : PS X (.AugAssign (.Name x p) op ex pos) (TSt F X.K ir n (.aug i op e)) := by
  have go : ∀ (f : TIp), PIp X op f → (∀ a b c, augI op a b = some c → ∀ (H : Hp) (Q : VK), Q (.int c) H → f (.int a) (.int b) H Q) → PS X (.AugAssign (.Name x p) op ex pos) (TSt F X.K ir n (.aug i op e)) := fun fi hop hv => PS.imp (ps_aug hN hi hx he hop hf) fun D σ H h => by
    obtain ⟨B, s, w, G, own, res, hn, R, e, f⟩ := h
    simp only [rs, Option.bind_eq_some_iff, Option.map_eq_some_iff] at e
    obtain ⟨sl, e0, d, e1, a, e2, ⟨y, s1, w1⟩, e3, b, e4, c, e5, e6⟩ := e
    cases e6
    obtain rfl := asI_some e2
    have e4 : asI y = some b := e4
    obtain rfl := asI_some e4
    have esl : sl = .fr (.int a) := by
      cases sl <;> first
        | (cases e1; rfl)
        | cases e1
    subst esl
    obtain ⟨v, h1, h2⟩ := R.var i _ e0
    cases h2
    refine ⟨_, h1, ?_⟩
    obtain ⟨G1, ρ, P, e7, c⟩ := ev_md R e3
    refine ⟨G1, B.r, ρ, w, _, w1, P, e7, fun v H1 G1' x o rp => ?_⟩
    obtain ⟨G2, own2, R2, _, r2⟩ := c v H1 G1' x o rp
    cases r2
    refine hv _ _ _ e5 _ _ (f _ _ _ _ (R2.set (.int _) ?_ hr))
    obtain ⟨_, rfl⟩ := evM_sc e3
    exact (List.getElem?_eq_some_iff.mp e0).1
  have dead : (∀ a b, augI op a b = none) → PS X (.AugAssign (.Name x p) op ex pos) (TSt F X.K ir n (.aug i op e)) := fun hv => PS.imp ps_never fun D σ H h => by
    obtain ⟨B, s, w, G, own, res, hn, R, e, f⟩ := h
    simp only [rs, Option.bind_eq_some_iff, Option.map_eq_some_iff] at e
    obtain ⟨sl, e0, d, e1, a, e2, ⟨y, s1, w1⟩, e3, b, e4, c, e5, e6⟩ := e
    rw [hv] at e5; cases e5
  cases op with
  | Add => exact go _ ip_add fun a b c h H Q q => by cases h; exact ⟨a, b, rfl, rfl, q⟩
  | Sub => exact go _ ip_sub fun a b c h H Q q => by cases h; exact ⟨a, b, rfl, rfl, q⟩
  | Mult =>
    refine go _ ip_mul fun a b c h H Q q => ?_
    simp only [augI] at h
    split at h
    · rename_i cc
      cases h
      rw [Bool.or_eq_true] at cc
      exact ⟨a, b, rfl, rfl, cc.imp big_iff big_iff, q⟩
    · cases h
  | _ => exact dead fun a b => rfl
theorem k_app {x : Str} {p ap cp : Pos} {ex : Expr} (hi : X.N[i]? = some x) (hv : Vis X.env.scope x) (hd : (x == ("__debug__" : Str)) = false) (hcd : (x == ("__classdict__" : Str)) = false) (he : PE X ex (RE F X.K ir e)) (hst : notStar ex = true) (hl : (ap.endLine == cp.line) = true)  :
    PS X (.Expr (.Call (.Attribute (.Name x p) "append" ap) [ex] [] cp) pos) (TSt F X.K ir n (.app i md e)) := by
  have hs1 := star_of hst [] X.env
  refine PS.imp (ps_expr (pe_bm PySem.F.plainAttrs_list PySem.F.slot_list_append PySem.F.type_list_append mt_append (pe_var hi hv hd hcd) (pa_cons he pa_nil hs1) rfl (by rw [hs1]; rfl) hl hs1 rfl)) fun D σ H h => ?_
  obtain ⟨B, s, w, G, own, res, hn, R, e, f⟩ := h
  simp only [rs, Option.bind_eq_some_iff] at e
  obtain ⟨⟨d, s1, w1⟩, e1, sl, hds, ds, e3, e2⟩ := e
  obtain rfl := Sl.asL_some e3
  dsimp only at hds e2
  split at e2
  · rename_i hz
    cases e2
    obtain ⟨G1, ρ, P, e4, c⟩ := ev_md R e1
    have hlt : i < s1.length := (List.getElem?_eq_some_iff.mp hds).1
    have hown : ∀ H1 G2 own2, Rel X.K ir B σ H1 s1 w1 G2 own2 → ∃ a vs, σ[i]? = some (some (.ref a)) ∧ own2 a = some i ∧ H1 a = some (.lst vs) ∧ Reps G2 vs ds := fun H1 G2 own2 R2 => R2.var i _ hds
    have hbefore : ∃ a xs, σ[i]? = some (some (.ref a)) ∧ H a = some (.lst xs) := by
      have : ∃ ds0, s[i]? = some (.l ds0) := by
        cases md with
        | pk => obtain ⟨_, rfl⟩ := evM_sc e1; exact ⟨ds, hds⟩
        | fz js =>
          simp only [evM, Option.map_eq_some_iff] at e1
          obtain ⟨_, _, e1⟩ := e1
          cases e1
          unfold frz at hds
          rw [fzG_get] at hds
          obtain ⟨sl, h1, h2⟩ := Option.map_eq_some_iff.mp hds
          rw [h1]
          cases sl <;> split at h2 <;> simp [Sl.fz] at h2 ⊢
        | al =>
          simp only [evM, Option.map_eq_some_iff] at e1
          obtain ⟨_, _, e1⟩ := e1
          cases e1
          unfold fzA at hds
          rw [fzG_get] at hds
          obtain ⟨sl, h1, h2⟩ := Option.map_eq_some_iff.mp hds
          rw [h1]
          cases sl <;> split at h2 <;> simp [Sl.fz] at h2 ⊢
      obtain ⟨ds0, h0⟩ := this
      obtain ⟨a, vs, h1, h2, h3, h4⟩ := R.var i _ h0
      exact ⟨a, vs, h1, h3⟩
    obtain ⟨a0, xs0, h01, h02⟩ := hbefore
    refine ⟨_, h01, .inl ⟨rfl, _, .of h02⟩, ?_⟩
    refine ⟨G1, B.r, ρ, w, d, w1, P, e4, fun v H1 G1' x o rp => ?_⟩
    obtain ⟨G2, own2, R2, _, r2⟩ := c v H1 G1' x o rp
    obtain ⟨a, vs, h1, h2, h3, h4⟩ := hown _ _ _ R2
    rw [h01] at h1
    cases h1
    refine ⟨a0, vs, v, rfl, rfl, h3, by rw [h4.length]; exact hz, f _ _ _ _ (R2.put h2 hlt rfl ?_)⟩
    exact ⟨a0, _, h01, h2, upd_same, h4.snoc r2⟩
  · cases e2
theorem k_ext {x : Str} {p ap cp : Pos} {ex : Expr} (hi : X.N[i]? = some x) (hv : Vis X.env.scope x) (hd : (x == ("__debug__" : Str)) = false) (hcd : (x == ("__classdict__" : Str)) = false) (he : PE X ex (RE F X.K ir e)) (hst : notStar ex = true) (hl : (ap.endLine == cp.line) = true)  :
    PS X (.Expr (.Call (.Attribute (.Name x p) "extend" ap) [ex] [] cp) pos) (TSt F X.K ir n (.ext i md e)) := by
  have hs1 := star_of hst [] X.env
  refine PS.imp (ps_expr (pe_bm PySem.F.plainAttrs_list PySem.F.slot_list_extend PySem.F.type_list_extend mt_extend (pe_var hi hv hd hcd) (pa_cons he pa_nil hs1) rfl (by rw [hs1]; rfl) hl hs1 rfl)) fun D σ H h => ?_
  obtain ⟨B, s, w, G, own, res, hn, R, e, f⟩ := h
  simp only [rs, Option.bind_eq_some_iff] at e
  obtain ⟨⟨d, s1, w1⟩, e1, es, e0, sl, hds, ds, e3, e2⟩ := e
  have e0 : asLs d = some es := e0
  obtain rfl := asLs_some e0
  obtain rfl := Sl.asL_some e3
  dsimp only at hds e2
  split at e2
  · rename_i hz
    cases e2
    obtain ⟨G1, ρ, P, e4, c⟩ := ev_md R e1
    have hlt : i < s1.length := (List.getElem?_eq_some_iff.mp hds).1
    have hown : ∀ H1 G2 own2, Rel X.K ir B σ H1 s1 w1 G2 own2 → ∃ a vs, σ[i]? = some (some (.ref a)) ∧ own2 a = some i ∧ H1 a = some (.lst vs) ∧ Reps G2 vs ds := fun H1 G2 own2 R2 => R2.var i _ hds
    have hbefore : ∃ a xs, σ[i]? = some (some (.ref a)) ∧ H a = some (.lst xs) := by
      have : ∃ ds0, s[i]? = some (.l ds0) := by
        cases md with
        | pk => obtain ⟨_, rfl⟩ := evM_sc e1; exact ⟨ds, hds⟩
        | fz js =>
          simp only [evM, Option.map_eq_some_iff] at e1
          obtain ⟨w0, _, e1⟩ := e1
          obtain rfl : frz js s = s1 := congrArg (fun z => z.2.1) e1
          unfold frz at hds
          rw [fzG_get] at hds
          obtain ⟨sl, h1, h2⟩ := Option.map_eq_some_iff.mp hds
          rw [h1]
          cases sl <;> split at h2 <;> simp [Sl.fz] at h2 ⊢
        | al =>
          simp only [evM, Option.map_eq_some_iff] at e1
          obtain ⟨w0, _, e1⟩ := e1
          obtain rfl : fzA s = s1 := congrArg (fun z => z.2.1) e1
          unfold fzA at hds
          rw [fzG_get] at hds
          obtain ⟨sl, h1, h2⟩ := Option.map_eq_some_iff.mp hds
          rw [h1]
          cases sl <;> split at h2 <;> simp [Sl.fz] at h2 ⊢
      obtain ⟨ds0, h0⟩ := this
      obtain ⟨a, vs, h1, h2, h3, h4⟩ := R.var i _ h0
      exact ⟨a, vs, h1, h3⟩
    obtain ⟨a0, xs0, h01, h02⟩ := hbefore
    refine ⟨_, h01, .inl ⟨rfl, _, .of h02⟩, ?_⟩
    refine ⟨G1, B.r, ρ, w, _, w1, P, e4, fun v H1 G1' x o rp => ?_⟩
    obtain ⟨G2, own2, R2, _, r2⟩ := c v H1 G1' x o rp
    obtain ⟨a, vs, h1, h2, h3, h4⟩ := hown _ _ _ R2
    rw [h01] at h1
    cases h1
    cases r2 with
    | @lst b us es' gb rb =>
      refine ⟨a0, b, vs, us, rfl, rfl, h3, R2.ext.s _ _ gb, by rw [h4.length, rb.length]; exact okLen_iff hz, f _ _ _ _ (R2.put h2 hlt rfl ?_)⟩
      exact ⟨a0, _, h01, h2, upd_same, h4.append rb⟩
  · cases e2
theorem k_put1 {x : Str} {p sp : Pos} {a : E} {ea ex : Expr} (hi : X.N[i]? = some x) (hv : Vis X.env.scope x) (hd : (x == ("__debug__" : Str)) = false) (hcd : (x == ("__classdict__" : Str)) = false) (he : PE X ex (RE F X.K ir e)) (ha : PE X ea (RE F X.K ir a))
    (has : ∀ v, assign (.Subscript (.Name x p) ea sp) X.env v = (do
      let ov ← holding [v] (eval (.Name x p) X.env)
      let iv ← holding [v, ov] (eval ea X.env)
      standAt sp
      holding [v, ov, iv] (setItem ov iv v)
      release [v, ov, iv] [])) (hs : swapsWithSole [.Subscript (.Name x p) ea sp] ex pos.line X.env = pure false) :
    PS X (.Assign [.Subscript (.Name x p) ea sp] ex pos) (TSt F X.K ir n (.put1 i md e a)) := by
  refine PS.imp (ps_asg he (pg_sub (pe_var hi hv hd hcd) ha set_list has) hs) fun D σ H h => ?_
  obtain ⟨B, s, w, G, own, res, hn, R, e, f⟩ := h
  simp only [rs, Option.bind_eq_some_iff, Option.map_eq_some_iff] at e
  obtain ⟨⟨d, s1, w1⟩, e1, ⟨k, s2, w2⟩, e2, sl, hds, ds, e3, k', e4, j, hj, e5⟩ := e
  obtain rfl := Sl.asL_some e3
  dsimp only at e2 hds e4
  obtain rfl := asI_some e4
  obtain ⟨_, rfl⟩ := evM_sc e2
  cases e5
  have hlt : i < s2.length := (List.getElem?_eq_some_iff.mp hds).1
  obtain ⟨G1, ρ, P, e5, c⟩ := ev_md R e1
  refine ⟨G1, B.r, ρ, w, d, w1, P, e5, fun v H1 G1' x o rp => ?_⟩
  obtain ⟨G2, own2, R2, _, r2⟩ := c v H1 G1' x o rp
  obtain ⟨a0, vs0, h1, h2, h3, h4⟩ := R2.var i _ hds
  refine ⟨_, h1, ?_⟩
  obtain ⟨G3, ρ3, P3, e6, c3⟩ := ev_md R2 e2
  refine ⟨G3, B.r, ρ3, w1, _, w2, P3, e6, fun v3 H3 G3' x3 o3 rp3 => ?_⟩
  obtain ⟨G4, own4, R4, kp4, r4⟩ := c3 v3 H3 G3' x3 o3 rp3
  cases r4
  obtain ⟨a1, vs, h5, h6, h7, h8⟩ := R4.var i _ hds
  rw [h1] at h5
  cases h5
  refine ⟨a0, vs, k', j, rfl, rfl, h7, by rw [h8.length]; exact hj, f _ _ _ _ (R4.put h6 hlt rfl ?_)⟩
  exact ⟨a0, _, h1, h6, upd_same, Reps.set (r2.mono kp4.g) j h8⟩
/-- a row of a list of lists is changed -/
theorem Rows.at {G H : Hp} {own : Own} {i : Nat} : ∀ {bs : List Addr} {dss : List (List D)} {j : Nat} {ds : List D}, Rows G H own i bs dss → dss[j]? = some ds → ∃ b vs, bs[j]? = some b ∧ own b = some i ∧ H b = some (.lst vs) ∧ Reps G vs ds
  | _, _, _, _, .nil, h => by simp at h
  | _, _, 0, _, .cons h1 h2 h3 r, h => by simp at h; subst h; exact ⟨_, _, rfl, h1, h2, h3⟩
  | _, _, j + 1, ds, .cons h1 h2 h3 r, h => by
    obtain ⟨b, vs, k1, k2⟩ := Rows.at (j := j) (ds := ds) r (by simpa using h)
    exact ⟨b, vs, by simpa using k1, k2⟩
theorem Rows.len {G H : Hp} {own : Own} {i : Nat} : ∀ {bs : List Addr} {dss : List (List D)}, Rows G H own i bs dss → bs.length = dss.length
  | _, _, .nil => rfl
  | _, _, .cons _ _ _ r => by simp [Rows.len r]
theorem Rows.off {G H : Hp} {own : Own} {i : Nat} {b : Addr} {o : HO} : ∀ {bs : List Addr} {dss : List (List D)}, Rows G H own i bs dss → b ∉ bs → Rows G (upd H b o) own i bs dss
  | _, _, .nil, _ => .nil
  | _, _, .cons h1 h2 h3 r, hb => by
    rw [List.mem_cons, not_or] at hb
    have hb' := hb
    exact .cons h1 ((upd_ne (Ne.symm hb'.1)).trans h2) h3 (Rows.off r hb'.2)
theorem Rows.put {G H : Hp} {own : Own} {i : Nat} {b : Addr} {vs : List V} {ds' : List D} (r' : Reps G vs ds') : ∀ {bs : List Addr} {dss : List (List D)} {j : Nat}, Rows G H own i bs dss → bs.Nodup → bs[j]? = some b → Rows G (upd H b (.lst vs)) own i bs (dss.set j ds')
  | _, _, _, .nil, _, h => by simp at h
  | _, _, 0, .cons h1 h2 h3 r, nd, h => by
    simp at h; subst h
    exact .cons h1 upd_same r' (r.off (List.nodup_cons.mp nd).1)
  | _, _, j + 1, .cons h1 h2 h3 r, nd, h => by
    have h' := (by simpa using h : _)
    have hm : b ∈ _ := List.mem_of_getElem? h'
    exact .cons h1 ((upd_ne (fun z => (List.nodup_cons.mp nd).1 (by rw [z]; exact hm))).trans h2) h3 (Rows.put r' r (List.nodup_cons.mp nd).2 h')
theorem refs_inj : ∀ {as bs : List Addr}, as.map V.ref = bs.map V.ref → as = bs
  | [], [], _ => rfl
  | [], _ :: _, h => by cases h
  | _ :: _, [], h => by cases h
  | a :: as, b :: bs, h => by
    rw [List.map_cons, List.map_cons] at h
    injection h with h1 h2
    injection h1 with h1
    rw [h1, refs_inj h2]
theorem k_put2 {x : Str} {p sp sp2 : Pos} {a b : E} {ea eb ex : Expr} (hi : X.N[i]? = some x) (hv : Vis X.env.scope x) (hd : (x == ("__debug__" : Str)) = false) (hcd : (x == ("__classdict__" : Str)) = false) (he : PE X ex (RE F X.K ir e)) (ha : PE X ea (RE F X.K ir a)) (hb : PE X eb (RE F X.K ir b))
    (hsl : notSlice ea = true)
    (has : ∀ v, assign (.Subscript (.Subscript (.Name x p) ea sp2) eb sp) X.env v = (do
      let ov ← holding [v] (eval (.Subscript (.Name x p) ea sp2) X.env)
      let iv ← holding [v, ov] (eval eb X.env)
      standAt sp
      holding [v, ov, iv] (setItem ov iv v)
      release [v, ov, iv] [])) (hs : swapsWithSole [.Subscript (.Subscript (.Name x p) ea sp2) eb sp] ex pos.line X.env = pure false) :
    PS X (.Assign [.Subscript (.Subscript (.Name x p) ea sp2) eb sp] ex pos) (TSt F X.K ir n (.put2 i e a b)) := by
  refine PS.imp (ps_asg he (pg_sub (pe_ix ix_list (pe_var hi hv hd hcd) ha (plainIx_of hsl)) hb set_list has) hs) fun D σ H h => ?_
  obtain ⟨B, s, w, G, own, res, hn, R, e, f⟩ := h
  simp only [rs, Option.bind_eq_some_iff, Option.map_eq_some_iff] at e
  obtain ⟨⟨d, s1, w1⟩, e1, ⟨k, s2, w2⟩, e2, ⟨l, s3, w3⟩, e3, sl, hds, dss, e4, k', e5, l', e6, j, hj, ds, hjd, jj, hjj, e7⟩ := e
  obtain rfl := Sl.asLL_some e4
  dsimp only at e2 e3 hds e5 e6
  obtain rfl := asI_some e5
  obtain rfl := asI_some e6
  obtain ⟨_, rfl⟩ := evM_sc e3
  obtain ⟨_, rfl⟩ := evM_sc e2
  cases e7
  have hlt : i < s3.length := (List.getElem?_eq_some_iff.mp hds).1
  obtain ⟨G1, ρ, P, e8, c⟩ := ev_md R e1
  refine ⟨G1, B.r, ρ, w, d, w1, P, e8, fun v H1 G1' x o rp => ?_⟩
  obtain ⟨G2, own2, R2, _, r2⟩ := c v H1 G1' x o rp
  obtain ⟨a0, bs0, h1, h2, h3, h4, h5⟩ := R2.var i _ hds
  refine ⟨_, h1, ?_⟩
  obtain ⟨G3, ρ3, P3, e9, c3⟩ := ev_md R2 e2
  refine ⟨G3, B.r, ρ3, w1, _, w2, P3, e9, fun v3 H3 G3' x3 o3 rp3 => ?_⟩
  obtain ⟨G4, own4, R4, kp4, r4⟩ := c3 v3 H3 G3' x3 o3 rp3
  cases r4
  obtain ⟨a1, bs, h6, h7, h8, h9, h10⟩ := R4.var i _ hds
  rw [h1] at h6
  cases h6
  obtain ⟨b4, vs4, k1, k2, k3, k4⟩ := h10.at hjd
  refine ⟨a0, _, k', .ref b4, rfl, rfl, .of h8, ?_, ?_⟩
  · unfold atI
    rw [List.length_map, h10.len, hj]
    show (bs.map V.ref)[j]? = _
    rw [List.getElem?_map, k1]
    rfl
  obtain ⟨G5, ρ5, P5, e10, c5⟩ := ev_md R4 e3
  refine ⟨G5, B.r, ρ5, w2, _, w3, P5, e10, fun v5 H5 G5' x5 o5 rp5 => ?_⟩
  obtain ⟨G6, own6, R6, kp6, r6⟩ := c5 v5 H5 G5' x5 o5 rp5
  cases r6
  obtain ⟨a2, bs2, q1, q2, q3, q4, q5⟩ := R6.var i _ hds
  rw [h1] at q1
  cases q1
  obtain ⟨b6, vs6, u1, u2, u3, u4⟩ := q5.at hjd
  have same : H5 a0 = H3 a0 := by
    have := x5.f a0 _ (R4.off (R4.own a0 i h7).2.2) h8
    rw [this, h8]
  rw [same, h8] at q3
  have ebs : bs = bs2 := by
    have : bs.map V.ref = bs2.map V.ref := by injection (Option.some.inj q3)
    exact refs_inj this
  subst ebs
  rw [k1] at u1
  cases u1
  refine ⟨b4, vs6, l', jj, rfl, rfl, u3, by rw [u4.length]; exact hjj, f _ _ _ _ (R6.put u2 hlt rfl ?_)⟩
  have nb : a0 ≠ b4 := fun z => (List.nodup_cons.mp q4).1 (by rw [z]; exact List.mem_of_getElem? k1)
  refine ⟨a0, bs, h1, q2, (upd_ne nb).trans (same.trans h8), q4, q5.put (Reps.set ((r2.mono kp4.g).mono kp6.g) jj u4) (List.nodup_cons.mp q4).2 k1⟩
end
end Lt

set_option Elab.async false
set_option linter.all false
set_option maxRecDepth 100000
set_option maxHeartbeats 8000000
/-! LtM: statements: dicts, the draw list, several stores at once, lists of lists. -/
namespace Lt
open PySem PySem.Spec PyProof.Rows L2
/-- a dict takes a key: the parts -/
theorem put_any {κ α : Type} [DecidableEq κ] (k : κ) : ∀ (ks : List κ) (vs : List α), ks.length = vs.length → ((ks.zip vs).any fun kv => decide (kv.1 = k)) = (ks.any fun x => decide (x = k))
  | [], _, _ => rfl
  | x :: ks, v :: vs, h => by
    rw [List.zip_cons_cons, List.any_cons, List.any_cons, put_any k ks vs (by simpa using h)]
  | _ :: _, [], h => by cases h
theorem put_map {κ α : Type} [DecidableEq κ] (k : κ) (y : α) : ∀ (ks : List κ) (vs : List α), ks.length = vs.length →
    (ks.zip vs).map (fun kv => if kv.1 = k then (kv.1, y) else kv) = ks.zip ((ks.zip vs).map fun kv => if kv.1 = k then y else kv.2)
  | [], _, _ => rfl
  | x :: ks, v :: vs, h => by
    rw [List.zip_cons_cons, List.map_cons, List.map_cons, List.zip_cons_cons, put_map k y ks vs (by simpa using h)]
    by_cases e : x = k <;> simp [e]
  | _ :: _, [], h => by cases h
theorem put_reps {G : Hp} {v : V} {d : D} (k : List Key) (r : Rep G v d) : ∀ (ks : List (List Key)) (vs : List V) (ds : List D), ks.length = vs.length → Reps G vs ds → Reps G ((ks.zip vs).map fun kv => if kv.1 = k then v else kv.2) ((ks.zip ds).map fun kv => if kv.1 = k then d else kv.2)
  | [], _, _, _, _ => by simpa using Reps.nil
  | x :: ks, v' :: vs, d' :: ds, h, .cons r1 rs => by
    rw [List.zip_cons_cons, List.map_cons, List.zip_cons_cons, List.map_cons]
    have := put_reps k r ks vs ds (by simpa using h) rs
    by_cases e : x = k
    · simp only [e, if_pos rfl]; exact .cons r this
    · simp only [e, if_false]; exact .cons r1 this
  | _ :: _, [], _, h, _ => by cases h
theorem put_dict {G : Hp} {v : V} {d : D} {ks : List (List Key)} {vs : List V} {ds : List D} (k : List Key) (h : ks.length = vs.length) (rs : Reps G vs ds) (r : Rep G v d) :
    ∃ (ks' : List (List Key)) (vs' : List V) (ds' : List D), putK (ks.zip vs) k v = ks'.zip vs' ∧ putT (ks.zip ds) k d = ks'.zip ds' ∧ ks'.length = vs'.length ∧ Reps G vs' ds' := by
  have hd : ks.length = ds.length := h.trans rs.length
  unfold putK putT
  rw [put_any k ks vs h, put_any k ks ds hd]
  by_cases c : (ks.any fun x => decide (x = k)) = true
  · rw [if_pos c, if_pos c, put_map k v ks vs h, put_map k d ks ds hd]
    exact ⟨ks, _, _, rfl, rfl, by rw [List.length_map, List.length_zip, ← h, Nat.min_self], put_reps k r ks vs ds h rs⟩
  · rw [if_neg c, if_neg c]
    refine ⟨ks ++ [k], vs ++ [v], ds ++ [d], ?_, ?_, by simp [h], rs.snoc r⟩
    · rw [List.zip_append h]; rfl
    · rw [List.zip_append hd]; rfl
section
variable {K : PySem.W.Frag} {ir : Option Nat} {B : Bs} {σ : St} {H G H' G' : Hp} {s s' : Sls} {w w' : Option W} {own : Own} {F : Orc}
/-- the draw list turns -/
theorem Rel.row' {z z' : W} {a t : Addr} {ns : List Int} (R : Rel K ir B σ H s (some z) G own) (hr : B.r = some (a, t, ns)) (hz : z'.ns = z.ns) :
    Rel K ir B σ (upd H a (.lst [.ref t, .int z'.a, .int z'.b, .int z'.c])) s (some z') G own := by
  have q := R.row
  rw [hr] at q
  obtain ⟨q1, q2, q3, q4⟩ := q
  have ne : ∀ p i, own p = some i → p ≠ a := fun p i e z => R.at0 hr (by rw [← z]; exact (R.own p i e).2.2)
  refine ⟨⟨R.ext.g, fun b o e => ?_, fun b o n e => ?_, R.ext.n, fun b e => ?_⟩, ?_, fun j sl e => (R.var j sl e).move (.refl _) fun p q => ⟨q, upd_ne (ne p j q)⟩, R.row0, R.rowv, R.len, fun p i e => ?_⟩
  · rw [upd_ne (ne_of_none e q2)]; exact R.ext.s _ _ e
  · rw [upd_ne (n a t ns hr)]; exact R.ext.f b o n e
  · by_cases hb : b = a
    · subst hb; rw [upd_same]; exact fun z => nomatch z
    · rw [upd_ne hb]; exact R.ext.m b e
  · have q' := R.row
    rw [hr] at q' ⊢
    exact ⟨upd_same, q2, hz.trans q3, q'.sq fun p o n e => by rw [upd_ne (n a t ns rfl)]; exact e⟩
  · obtain ⟨h1, h2, h3⟩ := R.own p i e
    exact ⟨h1, h2.eq (upd_ne (ne p i e)), h3⟩
end
section
variable {X : Cx} {F : Orc} {ir : Option Nat} {n : Nat} {st : Stmt} {e : E} {i : Nat} {md : Md} {pos : Pos} {T : TE}
theorem k_rowSet {k : Nat} {x : Str} {p sp p2 : Pos} {j : _root_.Nat} {ex : Expr} (hi : X.N[i]? = some x) (hv : Vis X.env.scope x) (hd : (x == ("__debug__" : Str)) = false) (hcd : (x == ("__classdict__" : Str)) = false) (he : PE X ex (RE F X.K (some i) e))
    (hs : swapsWithSole [.Subscript (.Name x p) (.Constant (.int (k : Int)) j p2) sp] ex pos.line X.env = pure false) :
    PS X (.Assign [.Subscript (.Name x p) (.Constant (.int (k : Int)) j p2) sp] ex pos) (TSt F X.K (some i) n (.rowSet k e)) := by
  refine PS.imp (ps_asg he (pg_sub (pe_var hi hv hd hcd) pe_int set_list) hs) fun D σ H h => ?_
  obtain ⟨B, s, w, G, own, res, hn, R, e, f⟩ := h
  simp only [rs, Option.bind_eq_some_iff, Option.map_eq_some_iff] at e
  obtain ⟨⟨d, s1, w1⟩, e1, z, hz, ci, e2, z', e3, e4⟩ := e
  have hz : w1 = some z := hz
  subst hz
  have e2 : asI d = some ci := e2
  obtain rfl := asI_some e2
  cases e4
  obtain ⟨G1, ρ, P, e8, c⟩ := ev_md R e1
  refine ⟨G1, B.r, ρ, w, _, _, P, e8, fun v H1 G1' x o rp => ?_⟩
  obtain ⟨G2, own2, R2, _, r2⟩ := c v H1 G1' x o rp
  cases r2
  have q := R2.row
  cases hr : B.r with
  | none => rw [hr] at q; exact q.elim
  | some y =>
    obtain ⟨a, t, ns⟩ := y
    rw [hr] at q
    obtain ⟨q1, q2, q3, q4⟩ := q
    obtain ⟨i', hi', hσ⟩ := R2.rowv a t ns hr
    cases hi'
    refine ⟨_, hσ, a, _, (k : Int), k, rfl, rfl, q1, ?_, ?_⟩
    · match k, e3 with
      | 1, _ => rfl
      | 2, _ => rfl
      | 3, _ => rfl
    · match k, e3 with
      | 1, e3 => cases e3; exact f _ _ _ _ (R2.row' hr (z' := { z with a := ci }) rfl)
      | 2, e3 => cases e3; exact f _ _ _ _ (R2.row' hr (z' := { z with b := ci }) rfl)
      | 3, e3 => cases e3; exact f _ _ _ _ (R2.row' hr (z' := { z with c := ci }) rfl)
theorem k_putD {x : Str} {p sp : Pos} {a : E} {ea ex : Expr} (hu : X.A.units + 1 < cLine) (hi : X.N[i]? = some x) (hv : Vis X.env.scope x) (hd : (x == ("__debug__" : Str)) = false) (hcd : (x == ("__classdict__" : Str)) = false) (he : PE X ex (RE F X.K ir e)) (ha : PE X ea (RE F X.K ir a))
    (hs : swapsWith ex (some (.Subscript (.Name x p) ea sp)) pos.line X.env = pure false) :
    PS X (.Assign [.Subscript (.Name x p) ea sp] ex pos) (TSt F X.K ir n (.putD i e a)) := by
  refine PS.imp (ps_dput hu (pe_var hi hv hd hcd) ha he hs) fun D σ H h => ?_
  obtain ⟨B, s, w, G, own, res, hn, R, e, f⟩ := h
  simp only [rs, Option.bind_eq_some_iff] at e
  obtain ⟨⟨d, s1, w1⟩, e1, ⟨y, s2, w2⟩, e2, sl, hds, kvs, e3, ys, e4, k, e5, e6⟩ := e
  obtain rfl := Sl.asT_some e3
  dsimp only at e2 hds e4 e6
  obtain rfl := asTu_some e4
  obtain ⟨_, rfl⟩ := evM_sc e1
  split at e6
  · rename_i hz
    cases e6
    have hlt : i < s2.length := (List.getElem?_eq_some_iff.mp hds).1
    obtain ⟨G1, ρ, P, e7, c⟩ := ev_md R e1
    refine ⟨G1, B.r, ρ, w, d, w1, P, e7, fun v H1 G1' x o rp => ?_⟩
    obtain ⟨G2, own2, R2, _, r2⟩ := c v H1 G1' x o rp
    have hb : ∃ a0, σ[i]? = some (some (.ref a0)) := by
      simp only [evM, Option.map_eq_some_iff] at e2
      obtain ⟨⟨_, _⟩, _, e2⟩ := e2
      cases e2
      unfold frz at hds
      rw [fzG_get] at hds
      obtain ⟨sl, h1, h2⟩ := Option.map_eq_some_iff.mp hds
      have : sl = .dt kvs := by simpa using h2
      subst this
      obtain ⟨a0, _, _, _, h3, _⟩ := R.var i _ h1
      exact ⟨a0, h3⟩
    obtain ⟨a0, h1⟩ := hb
    refine ⟨_, h1, ?_⟩
    obtain ⟨G3, ρ3, P3, e8, c3⟩ := ev_md R2 e2
    refine ⟨G3, B.r, ρ3, w1, _, w2, P3, e8, fun v3 H3 G3' x3 o3 rp3 => ?_⟩
    obtain ⟨G4, own4, R4, kp4, r4⟩ := c3 v3 H3 G3' x3 o3 rp3
    obtain ⟨a1, ks, vs, ds, h2, h3, h4, h5, h6, h7⟩ := R4.var i _ hds
    rw [h1] at h2
    cases h2
    subst h7
    cases r4 with
    | @tup b vb db gb rb =>
      have hk := keysD_rep rb e5
      subst hk
      obtain ⟨ks', vs', ds', u1, u2, u3, u4⟩ := put_dict k h5 h6 (r2.mono kp4.g)
      refine ⟨a0, _, rfl, DPut.t h4 (R4.ext.s _ _ gb) ?_, f _ _ _ _ (R4.put h3 hlt rfl ?_)⟩
      · rw [List.length_zip, ← h5, Nat.min_self]
        rw [List.length_zip, ← h6.length, ← h5, Nat.min_self] at hz
        exact hz
      · rw [u1, u2]
        exact ⟨a0, ks', vs', ds', h1, h3, upd_same, u3, u4, rfl⟩
  · cases e6

/-! ### several stores at once -/
/-- the value for a slot -/
def PV (H G : Hp) (v : V) : Sl → List Addr → Prop
  | .fr d, L => L = [] ∧ Rep G v d
  | .l ds, L => ∃ p vs, L = [p] ∧ v = .ref p ∧ H p = some (.lst vs) ∧ Reps G vs ds
  | .dt kvs, L => ∃ p, L = [p] ∧ v = .ref p ∧ H p = some (.dT []) ∧ kvs = []
  | _, _ => False
inductive PVs (H G : Hp) : List V → List Sl → List Addr → Prop
  | nil : PVs H G [] [] []
  | cons {v : V} {sl : Sl} {L1 L2 : List Addr} {vs : List V} {sls : List Sl} : PV H G v sl L1 → PVs H G vs sls L2 → PVs H G (v :: vs) (sl :: sls) (L1 ++ L2)
def RPs (F : Orc) (K : PySem.W.Frag) (ir : Option Nat) (ps : List PM) : TA := fun σ H Q => ∃ B s w G own sls s' w', Rel K ir B σ H s w G own ∧ evPs F ps s w = some (sls, s', w') ∧
  ∀ vs H' G' own' L, Rel K ir B σ H' s' w' G' own' → Kp B H G own H' G' own' → (∀ p, H p ≠ none → H' p ≠ none) → PVs H' G' vs sls L → L.Nodup → (∀ p ∈ L, Fresh B H' G' own' p ∧ H p = none) → Q vs H'
/-- what an expression in the row is to be -/
def POk (X : Cx) (F : Orc) (ir : Option Nat) (p : PM) (ex : Expr) : Prop :=
  match p.k with
  | .fr => PE X ex (RE F X.K ir p.m)
  | .l => PE X ex (R1 F X.K ir p.m)
  | .d => PE X ex tDNewT
theorem ps_nilM : PA X [] (RPs F X.K ir []) := PA.imp pa_nil fun σ H Q h => by
  obtain ⟨B, s, w, G, own, sls, s', w', R, e, q⟩ := h
  simp only [evPs] at e; cases e
  exact q [] H G own [] R .refl (fun _ h => h) .nil .nil (fun p hp => absurd hp (by simp))
theorem PV.move {H G H' G' : Hp} {v : V} {sl : Sl} {L : List Addr} (g : Same G G') (k : ∀ p ∈ L, H' p = H p) (h : PV H G v sl L) : PV H' G' v sl L := by
  cases sl with
  | fr d => exact ⟨h.1, h.2.mono g⟩
  | l ds => obtain ⟨p, vs, rfl, h2, h3, h4⟩ := h; exact ⟨p, vs, rfl, h2, (k p (by simp)).trans h3, h4.mono g⟩
  | dt kvs => obtain ⟨p, rfl, h2, h3, h4⟩ := h; exact ⟨p, rfl, h2, (k p (by simp)).trans h3, h4⟩
  | un => exact h
  | ll d => exact h
theorem ps_consM {p : PM} {ps : List PM} {ex : Expr} {es : List Expr} (ho : POk X F ir p ex) (hr : PA X es (RPs F X.K ir ps)) (hs : notStar ex = true) : PA X (ex :: es) (RPs F X.K ir (p :: ps)) := by
  have fin : ∀ {T : TE} {σ : St} {H : Hp} {Q : List V → Hp → Prop} {B : Bs} {s : Sls} {w : Option W} {G : Hp} {own : Own} {sl : Sl} {sls : List Sl} {s1 s' : Sls} {w1 w' : Option W}, Rel X.K ir B σ H s w G own → evPs F ps s1 w1 = some (sls, s', w') →
      (∀ vs H' G' own' L, Rel X.K ir B σ H' s' w' G' own' → Kp B H G own H' G' own' → (∀ p, H p ≠ none → H' p ≠ none) → PVs H' G' vs (sl :: sls) L → L.Nodup → (∀ p ∈ L, Fresh B H' G' own' p ∧ H p = none) → Q vs H') →
      ∀ v H1 G1 own1 L1, Rel X.K ir B σ H1 s1 w1 G1 own1 → Kp B H G own H1 G1 own1 → (∀ p, H p ≠ none → H1 p ≠ none) → PV H1 G1 v sl L1 → L1.Nodup → (∀ p ∈ L1, Fresh B H1 G1 own1 p ∧ H p = none) →
        RPs F X.K ir ps σ H1 fun vs H2 => Q (v :: vs) H2 := fun {T σ H Q B s w G own sl sls s1 s' w1 w'} R e q v H1 G1 own1 L1 R1 k1 m1 pv nd fr => by
    refine ⟨B, s1, w1, G1, own1, sls, s', w', R1, e, fun vs H2 G2 own2 L2 R2 k2 m2 pvs nd2 fr2 => ?_⟩
    refine q _ H2 G2 own2 (L1 ++ L2) R2 (k1.trans k2 m1) (fun p h => m2 p (m1 p h)) (.cons (pv.move k2.g fun p hp => (k2.k p (fr p hp).1).2) pvs) ?_ fun p hp => ?_
    · refine List.nodup_append.mpr ⟨nd, nd2, fun a ha b hb e => ?_⟩
      subst e
      exact (fr a ha).1.1.ne (fr2 a hb).2
    · rcases List.mem_append.mp hp with hp | hp
      · exact ⟨(k2.k p (fr p hp).1).1, (fr p hp).2⟩
      · exact ⟨(fr2 p hp).1, none_of m1 (fr2 p hp).2⟩
  obtain ⟨pi, pk, pmd, pm⟩ := p
  cases pk with
  | fr =>
    have ho : PE X ex (RE F X.K ir pm) := ho
    refine PA.imp (pa_cons ho hr (star_of hs es X.env)) fun σ H Q h => ?_
    obtain ⟨B, s, w, G, own, sls, s', w', R, e, q⟩ := h
    simp only [evPs, evP, Option.bind_eq_some_iff, Option.map_eq_some_iff] at e
    obtain ⟨⟨sl, s1, w1⟩, ⟨⟨d, s1', w1'⟩, e1, e2⟩, ⟨sls', s2, w2⟩, e3, e4⟩ := e
    cases e2
    cases e4
    obtain ⟨G1, ρ, P, e7, c⟩ := ev_md R e1
    refine ⟨G1, B.r, ρ, w, d, _, P, e7, fun v H1 G1' x o rp => ?_⟩
    obtain ⟨G2, own2, R2, k2, r2⟩ := c v H1 G1' x o rp
    exact fin (T := fun _ _ _ => True) R e3 q v H1 G2 own2 [] R2 k2 x.m ⟨rfl, r2⟩ .nil fun p hp => absurd hp (by simp)
  | l =>
    have ho : PE X ex (R1 F X.K ir pm) := ho
    refine PA.imp (pa_cons ho hr (star_of hs es X.env)) fun σ H Q h => ?_
    obtain ⟨B, s, w, G, own, sls, s', w', R, e, q⟩ := h
    simp only [evPs, evP, Option.bind_eq_some_iff, Option.map_eq_some_iff] at e
    obtain ⟨⟨sl, s1, w1⟩, ⟨⟨d, s1', w1'⟩, e1, ds, e2, e2'⟩, ⟨sls', s2, w2⟩, e3, e4⟩ := e
    have e2 : asLs d = some ds := e2
    obtain rfl := asLs_some e2
    cases e2'
    cases e4
    obtain ⟨G1, ρ, P, e7, c⟩ := ev_md1 R e1
    refine ⟨G1, B.r, ρ, w, ds, _, P, e7, fun p vs H1 G1' x o hp hg hl rp => ?_⟩
    obtain ⟨own2, R2, k2, fr⟩ := c H1 G1' x o
    refine fin (T := fun _ _ _ => True) R e3 q _ H1 G1' own2 [p] R2 k2 x.m ⟨p, vs, rfl, rfl, hl, rp⟩ (by simp) fun p' hp' => ?_
    rw [List.mem_singleton] at hp'
    subst hp'
    exact ⟨fr p' hp ⟨_, hl, rfl⟩ hg, hp⟩
  | d =>
    have ho : PE X ex tDNewT := ho
    refine PA.imp (pa_cons ho hr (star_of hs es X.env)) fun σ H Q h => ?_
    obtain ⟨B, s, w, G, own, sls, s', w', R, e, q⟩ := h
    simp only [evPs, evP, Option.bind_eq_some_iff, Option.map_eq_some_iff] at e
    obtain ⟨⟨sl, s1, w1⟩, e2, ⟨sls', s2, w2⟩, e3, e4⟩ := e
    cases e2
    cases e4
    intro p hp
    have hG : G p = none := Same.free R.ext.s hp
    have sm : Same H (upd H p (.dT [])) := same_new hp
    have hop : own p = none := by
      cases z : own p with
      | none => rfl
      | some j => exact absurd hp (R.own p j z).2.1.ne
    have R2 : Rel X.K ir B σ (upd H p (.dT [])) s w G own := R.grow (fun b o _ e => sm _ _ e) (fun b => same_ne sm) (.refl _) (R.ext.s.trans sm) (fun _ _ _ h => h)
      (R.row.move (fun b o _ e => sm _ _ e) R.row fun a t ns z => ⟨upd_ne fun z' => R.row.off hp a t ns z z'.symm, R.g0 z⟩)
    refine fin (T := fun _ _ _ => True) R e3 q _ _ G own [p] R2 ⟨.refl _, fun b hb => ⟨⟨hb.1.same sm, hb.2⟩, upd_ne fun z => hb.1.ne (by rw [z]; exact hp)⟩, fun _ _ h => .inl h⟩ (fun b => same_ne sm) ⟨p, rfl, rfl, upd_same, rfl⟩ (by simp) fun p' hp' => ?_
    rw [List.mem_singleton] at hp'
    subst hp'
    exact ⟨⟨⟨_, upd_same, rfl⟩, hG, hop, none_of R.ext.m hp⟩, hp⟩
theorem Rel.give1 {K : PySem.W.Frag} {B : Bs} {σ : St} {H G : Hp} {s : Sls} {w : Option W} {own : Own} {v : V} {sl : Sl} {L : List Addr} (R : Rel K ir B σ H s w G own) (pv : PV H G v sl L) (fr : ∀ p ∈ L, Fresh B H G own p) (hi : i < s.length) (hr : ir ≠ some i) :
    Rel K ir B (σ.set i (some v)) H (s.set i sl) w G (fun q => if q ∈ L then some i else own q) := by
  refine R.give L fr hi hr ?_
  cases sl with
  | fr d => obtain ⟨rfl, h⟩ := pv; exact ⟨v, rfl, h⟩
  | l ds => obtain ⟨p, vs, rfl, rfl, h3, h4⟩ := pv; exact ⟨p, vs, rfl, if_pos (by simp), h3, h4⟩
  | dt kvs => obtain ⟨p, rfl, rfl, h3, rfl⟩ := pv; exact ⟨p, [], [], [], rfl, if_pos (by simp), h3, rfl, .nil, rfl⟩
  | un => exact pv.elim
  | ll d => exact pv.elim
theorem Fresh.rest {B : Bs} {H G : Hp} {own : Own} {L : List Addr} {p : Addr} (h : Fresh B H G own p) (hp : p ∉ L) : Fresh B H G (fun q => if q ∈ L then some i else own q) p :=
  ⟨h.1, h.2.1, (if_neg hp).trans h.2.2.1, h.2.2.2⟩
theorem k_par2 {p1 p2 : PM} {x y : Str} {a b : Expr} {px py pt : Pos} {kt k2 pt2} (hc : X.calm = true) (hN : X.N.Nodup) (hi : X.N[p1.i]? = some x) (hj : X.N[p2.i]? = some y) (hij : p1.i ≠ p2.i) (hx : X.env.scope.names.lookup x = some .local) (hy : X.env.scope.names.lookup y = some .local)
    (ha : PA X [a, b] (RPs F X.K ir [p1, p2])) (hw : swappedStores [.Tuple [.Name x px, .Name y py] kt pt] (.Tuple [a, b] k2 pt2) X.env = pure (some [x, y])) (h1 : p1.i < n) (h2 : p2.i < n) (r1 : ir ≠ some p1.i) (r2 : ir ≠ some p2.i) :
    PS X (.Assign [.Tuple [.Name x px, .Name y py] kt pt] (.Tuple [a, b] k2 pt2) pos) (TSt F X.K ir n (.par [p1, p2])) := by
  refine PS.imp (ps_par hc hN hi hj hij hx hy ha hw) fun D σ H h => ?_
  obtain ⟨B, s, w, G, own, res, hn, R, e, f⟩ := h
  simp only [rs, Option.map_eq_some_iff] at e
  obtain ⟨⟨sls, s1, w1⟩, e1, e2⟩ := e
  cases e2
  refine ⟨B, s, w, G, own, sls, s1, w1, R, e1, fun vs H1 G1 own1 L R1 _ _ pvs nd fr => ?_⟩
  have hl : sls.length = 2 := by
    simp only [evPs, Option.bind_eq_some_iff, Option.map_eq_some_iff] at e1
    obtain ⟨x1, _, x2, ⟨x3, _, x4, e5, e6⟩, e7⟩ := e1
    cases e5
    rw [← e6] at e7
    cases e7
    rfl
  match vs, sls, L, pvs, hl with
  | _, [sl1, sl2], _, .cons (v := v1) (L1 := L1) q1 (.cons (v := v2) (L1 := L2) q2 .nil), _ =>
    refine ⟨v1, v2, rfl, ?_⟩
    obtain ⟨_, _, dj⟩ := List.nodup_append.mp nd
    have R2 := R1.give1 q1 (fun p hp => (fr p (List.mem_append_left _ hp)).1) (by rw [R1.len.1, hn]; exact h1) r1
    have R3 := R2.give1 q2 (fun p hp => (fr p (List.mem_append_right _ (List.mem_append_left _ hp))).1.rest fun z => dj p z p (List.mem_append_left _ hp) rfl) (by rw [R2.len.1, hn]; exact h2) r2
    exact f _ _ _ _ R3
theorem k_par3 {p1 p2 p3 : PM} {x y z : Str} {a b c : Expr} {px py pz pt : Pos} {kt k2 pt2} (hc : X.calm = true) (hN : X.N.Nodup) (hi : X.N[p1.i]? = some x) (hj : X.N[p2.i]? = some y) (hk : X.N[p3.i]? = some z) (hij : p1.i ≠ p2.i) (hik : p1.i ≠ p3.i) (hjk : p2.i ≠ p3.i) (hx : X.env.scope.names.lookup x = some .local) (hy : X.env.scope.names.lookup y = some .local) (hz : X.env.scope.names.lookup z = some .local)
    (ha : PA X [a, b, c] (RPs F X.K ir [p1, p2, p3])) (hw : swappedStores [.Tuple [.Name x px, .Name y py, .Name z pz] kt pt] (.Tuple [a, b, c] k2 pt2) X.env = pure (some [x, y, z])) (h1 : p1.i < n) (h2 : p2.i < n) (h3 : p3.i < n) (r1 : ir ≠ some p1.i) (r2 : ir ≠ some p2.i) (r3 : ir ≠ some p3.i) :
    PS X (.Assign [.Tuple [.Name x px, .Name y py, .Name z pz] kt pt] (.Tuple [a, b, c] k2 pt2) pos) (TSt F X.K ir n (.par [p1, p2, p3])) := by
  refine PS.imp (ps_par3 hc hN hi hj hk hij hik hjk hx hy hz ha hw) fun D σ H h => ?_
  obtain ⟨B, s, w, G, own, res, hn, R, e, f⟩ := h
  simp only [rs, Option.map_eq_some_iff] at e
  obtain ⟨⟨sls, s1, w1⟩, e1, e2⟩ := e
  cases e2
  refine ⟨B, s, w, G, own, sls, s1, w1, R, e1, fun vs H1 G1 own1 L R1 _ _ pvs nd fr => ?_⟩
  have hl : sls.length = 3 := by
    simp only [evPs, Option.bind_eq_some_iff, Option.map_eq_some_iff] at e1
    obtain ⟨x1, _, x2, ⟨x3, _, x4, ⟨x5, _, x6, e5, e6⟩, e7⟩, e8⟩ := e1
    cases e5
    rw [← e6] at e7
    rw [← e7] at e8
    cases e8
    rfl
  match vs, sls, L, pvs, hl with
  | _, [sl1, sl2, sl3], _, .cons (v := v1) (L1 := L1) q1 (.cons (v := v2) (L1 := L2) q2 (.cons (v := v3) (L1 := L3) q3 .nil)), _ =>
    refine ⟨v1, v2, v3, rfl, ?_⟩
    obtain ⟨_, nd', dj⟩ := List.nodup_append.mp nd
    obtain ⟨_, _, dj'⟩ := List.nodup_append.mp nd'
    have m2 : ∀ p ∈ L2, p ∈ L2 ++ (L3 ++ []) := fun p hp => List.mem_append_left _ hp
    have m3 : ∀ p ∈ L3, p ∈ L2 ++ (L3 ++ []) := fun p hp => List.mem_append_right _ (List.mem_append_left _ hp)
    have R2 := R1.give1 q1 (fun p hp => (fr p (List.mem_append_left _ hp)).1) (by rw [R1.len.1, hn]; exact h1) r1
    have R3 := R2.give1 q2 (fun p hp => (fr p (List.mem_append_right _ (m2 p hp))).1.rest fun z => dj p z p (m2 p hp) rfl) (by rw [R2.len.1, hn]; exact h2) r2
    have R4 := R3.give1 q3 (fun p hp => ((fr p (List.mem_append_right _ (m3 p hp))).1.rest fun z => dj p z p (m3 p hp) rfl).rest fun z => dj' p z p (List.mem_append_left _ hp) rfl) (by rw [R3.len.1, hn]; exact h3) r3
    exact f _ _ _ _ R4
/-- the tuple that is made, then unpacked, is nobody's -/
theorem Rel.tup {K : PySem.W.Frag} {ir : Option Nat} {B : Bs} {σ : St} {H G : Hp} {s : Sls} {w : Option W} {own : Own} (R : Rel K ir B σ H s w G own) {p : Addr} (hp : H p = none) (o : HO) : Rel K ir B σ (upd H p o) s w G own := by
  have sm : Same H (upd H p o) := same_new hp
  exact R.grow (fun b o _ e => sm _ _ e) (fun b => same_ne sm) (.refl _) (R.ext.s.trans sm) (fun _ _ _ h => h)
    (R.row.move (fun b o _ e => sm _ _ e) R.row fun a t ns z => ⟨upd_ne fun z' => R.row.off hp a t ns z z'.symm, R.g0 z⟩)
theorem PVs.tup {H G : Hp} {p : Addr} {o : HO} (hp : H p = none) : ∀ {vs : List V} {sls : List Sl} {L : List Addr}, (∀ q ∈ L, H q ≠ none) → PVs H G vs sls L → PVs (upd H p o) G vs sls L
  | _, _, _, _, .nil => .nil
  | _, _, _, h, .cons q r => .cons (q.move (.refl _) fun b hb => upd_ne fun z => h b (List.mem_append_left _ hb) (by rw [z]; exact hp)) (PVs.tup hp (fun b hb => h b (List.mem_append_right _ hb)) r)
theorem Fresh.tup {B : Bs} {H G : Hp} {own : Own} {p q : Addr} {o : HO} (hp : H p = none) (h : Fresh B H G own q) : Fresh B (upd H p o) G own q :=
  ⟨h.1.same (same_new hp), h.2⟩
theorem k_parT2 {p1 p2 : PM} {x y : Str} {a b : Expr} {px py pt : Pos} {kt k2 pt2} (hc : X.calm = true) (hN : X.N.Nodup) (hi : X.N[p1.i]? = some x) (hj : X.N[p2.i]? = some y) (hx : Loc X.env.scope x) (hy : Loc X.env.scope y) (fx : X.fn x = true ∨ X.env.scope.names.lookup x = some .local) (fy : X.fn y = true ∨ X.env.scope.names.lookup y = some .local)
    (ha : PA X [a, b] (RPs F X.K ir [p1, p2])) (hw : swappedStores [.Tuple [.Name x px, .Name y py] kt pt] (.Tuple [a, b] k2 pt2) X.env = pure none) (h1 : p1.i < n) (h2 : p2.i < n) (r1 : ir ≠ some p1.i) (r2 : ir ≠ some p2.i) :
    PS X (.Assign [.Tuple [.Name x px, .Name y py] kt pt] (.Tuple [a, b] k2 pt2) pos) (TSt F X.K ir n (.par [p1, p2])) := by
  refine PS.imp (ps_asg (pe_tup ha) (pg_tup hc (pgs_cons (pg_name hN hi hx fx) (pgs_cons (pg_name hN hj hy fy) pgs_nil))) rfl hw rfl) fun D σ H h => ?_
  obtain ⟨B, s, w, G, own, res, hn, R, e, f⟩ := h
  simp only [rs, Option.map_eq_some_iff] at e
  obtain ⟨⟨sls, s1, w1⟩, e1, e2⟩ := e
  cases e2
  refine ⟨B, s, w, G, own, sls, s1, w1, R, e1, fun vs H1 G1 own1 L R1 _ _ pvs nd fr => ?_⟩
  have hl : sls.length = 2 := by
    simp only [evPs, Option.bind_eq_some_iff, Option.map_eq_some_iff] at e1
    obtain ⟨x1, _, x2, ⟨x3, _, x4, e5, e6⟩, e7⟩ := e1
    cases e5
    rw [← e6] at e7
    cases e7
    rfl
  have fin : ∀ p, H1 p = none → ∀ xs, ∃ v1 v2, vs = [v1, v2] ∧ D.nx ((σ.set p1.i (some v1)).set p2.i (some v2)) (upd H1 p (.tup xs)) := fun p hp xs => by
    have R1 := R1.tup hp (.tup xs)
    have pvs := pvs.tup (o := .tup xs) hp fun q hq => (fr q hq).1.1.ne
    have fr : ∀ q ∈ L, Fresh B (upd H1 p (.tup xs)) G1 own1 q := fun q hq => (fr q hq).1.tup hp
    match vs, sls, L, pvs, hl with
    | _, [sl1, sl2], _, .cons (v := v1) (L1 := L1) q1 (.cons (v := v2) (L1 := L2) q2 .nil), _ =>
      refine ⟨v1, v2, rfl, ?_⟩
      obtain ⟨_, _, dj⟩ := List.nodup_append.mp nd
      have R2 := R1.give1 q1 (fun p hp => fr p (List.mem_append_left _ hp)) (by rw [R1.len.1, hn]; exact h1) r1
      have R3 := R2.give1 q2 (fun p hp => (fr p (List.mem_append_right _ (List.mem_append_left _ hp))).rest fun z => dj p z p (List.mem_append_left _ hp) rfl) (by rw [R2.len.1, hn]; exact h2) r2
      exact f _ _ _ _ R3
  have hvl : vs.length = 2 := by
    have : ∀ {vs : List V} {sls : List Sl} {L : List Addr}, PVs H1 G1 vs sls L → vs.length = sls.length := by
      intro vs sls L q
      induction q with
      | nil => rfl
      | cons _ _ ih => simp [ih]
    rw [this pvs, hl]
  refine ⟨by rw [hvl]; decide, ?_⟩
  match vs, hvl with
  | [v1, v2], _ =>
    intro p hp
    obtain ⟨_, _, e9, q⟩ := fin p hp [v1, v2]
    cases e9
    exact ⟨p, _, rfl, .of upd_same, rfl, v1, _, rfl, v2, _, rfl, rfl, q⟩
theorem k_parT3 {p1 p2 p3 : PM} {x y z : Str} {a b c : Expr} {px py pz pt : Pos} {kt k2 pt2} (hc : X.calm = true) (hN : X.N.Nodup) (hi : X.N[p1.i]? = some x) (hj : X.N[p2.i]? = some y) (hk : X.N[p3.i]? = some z) (hx : Loc X.env.scope x) (hy : Loc X.env.scope y) (hz : Loc X.env.scope z)
    (fx : X.fn x = true ∨ X.env.scope.names.lookup x = some .local) (fy : X.fn y = true ∨ X.env.scope.names.lookup y = some .local) (fz : X.fn z = true ∨ X.env.scope.names.lookup z = some .local)
    (ha : PA X [a, b, c] (RPs F X.K ir [p1, p2, p3])) (hw : swappedStores [.Tuple [.Name x px, .Name y py, .Name z pz] kt pt] (.Tuple [a, b, c] k2 pt2) X.env = pure none) (h1 : p1.i < n) (h2 : p2.i < n) (h3 : p3.i < n) (r1 : ir ≠ some p1.i) (r2 : ir ≠ some p2.i) (r3 : ir ≠ some p3.i) :
    PS X (.Assign [.Tuple [.Name x px, .Name y py, .Name z pz] kt pt] (.Tuple [a, b, c] k2 pt2) pos) (TSt F X.K ir n (.par [p1, p2, p3])) := by
  refine PS.imp (ps_asg (pe_tup ha) (pg_tup hc (pgs_cons (pg_name hN hi hx fx) (pgs_cons (pg_name hN hj hy fy) (pgs_cons (pg_name hN hk hz fz) pgs_nil)))) rfl hw rfl) fun D σ H h => ?_
  obtain ⟨B, s, w, G, own, res, hn, R, e, f⟩ := h
  simp only [rs, Option.map_eq_some_iff] at e
  obtain ⟨⟨sls, s1, w1⟩, e1, e2⟩ := e
  cases e2
  refine ⟨B, s, w, G, own, sls, s1, w1, R, e1, fun vs H1 G1 own1 L R1 _ _ pvs nd fr => ?_⟩
  have hl : sls.length = 3 := by
    simp only [evPs, Option.bind_eq_some_iff, Option.map_eq_some_iff] at e1
    obtain ⟨x1, _, x2, ⟨x3, _, x4, ⟨x5, _, x6, e5, e6⟩, e7⟩, e8⟩ := e1
    cases e5
    rw [← e6] at e7
    rw [← e7] at e8
    cases e8
    rfl
  have fin : ∀ p, H1 p = none → ∀ xs, ∃ v1 v2 v3, vs = [v1, v2, v3] ∧ D.nx (((σ.set p1.i (some v1)).set p2.i (some v2)).set p3.i (some v3)) (upd H1 p (.tup xs)) := fun p hp xs => by
    have R1 := R1.tup hp (.tup xs)
    have pvs := pvs.tup (o := .tup xs) hp fun q hq => (fr q hq).1.1.ne
    have fr : ∀ q ∈ L, Fresh B (upd H1 p (.tup xs)) G1 own1 q := fun q hq => (fr q hq).1.tup hp
    match vs, sls, L, pvs, hl with
    | _, [sl1, sl2, sl3], _, .cons (v := v1) (L1 := L1) q1 (.cons (v := v2) (L1 := L2) q2 (.cons (v := v3) (L1 := L3) q3 .nil)), _ =>
      refine ⟨v1, v2, v3, rfl, ?_⟩
      obtain ⟨_, nd', dj⟩ := List.nodup_append.mp nd
      obtain ⟨_, _, dj'⟩ := List.nodup_append.mp nd'
      have m2 : ∀ p ∈ L2, p ∈ L2 ++ (L3 ++ []) := fun p hp => List.mem_append_left _ hp
      have m3 : ∀ p ∈ L3, p ∈ L2 ++ (L3 ++ []) := fun p hp => List.mem_append_right _ (List.mem_append_left _ hp)
      have R2 := R1.give1 q1 (fun p hp => fr p (List.mem_append_left _ hp)) (by rw [R1.len.1, hn]; exact h1) r1
      have R3 := R2.give1 q2 (fun p hp => (fr p (List.mem_append_right _ (m2 p hp))).rest fun z => dj p z p (m2 p hp) rfl) (by rw [R2.len.1, hn]; exact h2) r2
      have R4 := R3.give1 q3 (fun p hp => ((fr p (List.mem_append_right _ (m3 p hp))).rest fun z => dj p z p (m3 p hp) rfl).rest fun z => dj' p z p (List.mem_append_left _ hp) rfl) (by rw [R3.len.1, hn]; exact h3) r3
      exact f _ _ _ _ R4
  have hvl : vs.length = 3 := by
    have : ∀ {vs : List V} {sls : List Sl} {L : List Addr}, PVs H1 G1 vs sls L → vs.length = sls.length := by
      intro vs sls L q
      induction q with
      | nil => rfl
      | cons _ _ ih => simp [ih]
    rw [this pvs, hl]
  refine ⟨by rw [hvl]; decide, ?_⟩
  match vs, hvl with
  | [v1, v2, v3], _ =>
    intro p hp
    obtain ⟨_, _, _, e9, q⟩ := fin p hp [v1, v2, v3]
    cases e9
    exact ⟨p, _, rfl, .of upd_same, rfl, v1, _, rfl, v2, _, rfl, v3, _, rfl, rfl, q⟩
end
end Lt

set_option Elab.async false
set_option linter.all false
set_option maxRecDepth 100000
set_option maxHeartbeats 8000000
/-! LtN: lists of lists; statements are sound. -/
namespace Lt
open PySem PySem.Spec PyProof.Rows L2
inductive RowsF (G H : Hp) : List Addr → List (List D) → Prop
  | nil : RowsF G H [] []
  | cons {b : Addr} {bs : List Addr} {vs : List V} {ds : List D} {dss : List (List D)} : H b = some (.lst vs) → Reps G vs ds → RowsF G H bs dss → RowsF G H (b :: bs) (ds :: dss)
theorem RowsF.move {G H G' H' : Hp} (g : Same G G') : ∀ {bs : List Addr} {dss : List (List D)}, (∀ q ∈ bs, H' q = H q) → RowsF G H bs dss → RowsF G' H' bs dss
  | _, _, _, .nil => .nil
  | _, _, h, .cons h1 h2 r => .cons ((h _ (by simp)).trans h1) (h2.mono g) (RowsF.move g (fun q hq => h q (by simp [hq])) r)
theorem RowsF.snoc {G H : Hp} {b : Addr} {vs : List V} {d : List D} (h1 : H b = some (.lst vs)) (h2 : Reps G vs d) : ∀ {bs : List Addr} {dss : List (List D)}, RowsF G H bs dss → RowsF G H (bs ++ [b]) (dss ++ [d])
  | _, _, .nil => .cons h1 h2 .nil
  | _, _, .cons k1 k2 r => .cons k1 k2 (RowsF.snoc h1 h2 r)
theorem RowsF.len {G H : Hp} : ∀ {bs : List Addr} {dss : List (List D)}, RowsF G H bs dss → bs.length = dss.length
  | _, _, .nil => rfl
  | _, _, .cons _ _ r => by simp [RowsF.len r]
theorem RowsF.rows {G H : Hp} {own : Own} {i : Nat} : ∀ {bs : List Addr} {dss : List (List D)}, (∀ q ∈ bs, own q = some i) → RowsF G H bs dss → Rows G H own i bs dss
  | _, _, _, .nil => .nil
  | _, _, h, .cons h1 h2 r => .cons (h _ (by simp)) h1 h2 (RowsF.rows (fun q hq => h q (by simp [hq])) r)
def RLL (F : Orc) (K : PySem.W.Frag) (ir : Option Nat) (m : E) : TE := fun σ H Q => ∃ G r ρ w ds dss w', Pre K ir σ H G r ρ w ∧ ev F m ρ w = some (.lst ds, w') ∧ lstsD ds = some dss ∧
  ∀ p bs H' G', Ext r H G H' G' → RowOk K r H' G' w' → (p :: bs).Nodup → (∀ q ∈ p :: bs, H q = none ∧ NT H' q ∧ G' q = none) → H' p = some (.lst (bs.map V.ref)) → RowsF G' H' bs dss → Q (.ref p) H'
section
variable {X : Cx} {F : Orc} {ir : Option Nat} {pos : Pos}
theorem rd_comp2 {own : List (Str × Nat)} {tg : Tg} {ik : IK} {ms : List E} {cond : Option E} {melt : E} {σ : St} {H : Hp} {Q : VK}
    (hsl : ∀ j ∈ tg.slots, j ∈ own.map (·.2)) (hir : ∀ i, ir = some i → i ∉ own.map (·.2)) (h : RLL F X.K ir (.comp (own.map (·.2)) tg ik ms cond melt) σ H Q) :
    tLc (RI F X.K ir ik ms) (RT tg) (RC F X.K ir cond) (R1 F X.K ir melt) (own.map (·.2)) σ H Q := by
  obtain ⟨G, r, ρ, w, dl, dss, w', P, e, hll, q⟩ := h
  simp only [ev, Option.bind_eq_some_iff] at e
  obtain ⟨⟨xs, w0⟩, e1, its, e2, ⟨ds, w2⟩, e3, e4⟩ := e
  split at e4
  rotate_left
  · cases e4
  rename_i hlen
  cases e4
  have hlen : ds.length ≤ sizeLine := okLen_iff hlen
  refine ⟨G, r, ρ, w, xs, w0, its, P, e1, e2, fun J H1 G1 Gw x1 o1 gw _ wk => fun Dd hD => ?_⟩
  have e3 : compL (turnF F (own.map (·.2)) tg cond melt ρ) its w0 = some (ds, w2) := e3
  generalize hvs : own.map (·.2) = vs at *
  have hoffn : ∀ q, H1 q = none → notR r q := fun q hq => o1.off hq
  refine lc_it wk (fun i H2 => ∃ G2 wi bs rs rest rr, Ext r H1 G1 H2 G2 ∧ G2 Dd = none ∧ RowOk X.K r H2 G2 wi ∧ H2 Dd = some (.lst (bs.map V.ref)) ∧ RowsF G2 H2 bs rs ∧ (Dd :: bs).Nodup ∧ (∀ q ∈ bs, H1 q = none ∧ NT H2 q ∧ G2 q = none) ∧
    compL (turnF F vs tg cond melt ρ) (its.drop i) wi = some (rest, w2) ∧ lstsD rest = some rr ∧ dss = rs ++ rr ∧ rs.length + rest.length = ds.length) ?_ ?_ ?_ ?_
  · refine ⟨G1, w0, [], [], ds, dss, ⟨.refl _, fun b o e => ?_, fun p o n e => ?_, fun _ _ _ h => h, fun p h => ?_⟩, Same.free x1.s hD, ?_, upd_same, .nil, by simp, fun q hq => absurd hq (by simp), e3, hll, rfl, by simp⟩
    · rw [upd_ne (ne_of_none (x1.s _ _ e) hD)]; exact x1.s _ _ e
    · rw [upd_ne (ne_of_none e hD)]; exact e
    · by_cases hp : p = Dd
      · subst hp; exact absurd hD h
      · rw [upd_ne hp]; exact h
    · refine o1.move (fun p o n e => by rw [upd_ne (ne_of_none e hD)]; exact e) o1 fun a s ns z => ?_
      subst z
      cases w0 with
      | none => exact o1.elim
      | some z => exact ⟨upd_ne (ne_of_none o1.1 hD), o1.2.1⟩
  · rintro i H2 hi ⟨G2, wi, bs, rs, rest, rr, x2, _⟩
    exact gw.trans (x2.g.trans x2.s)
  · rintro i x H2 H3 hi ⟨G2, wi, bs, rs, rest, rr, x2, nD, o2, hDa, ra, nd, fr, e5, e6, e7, e8⟩ y
    obtain ⟨d, G3, hd, g3, r3⟩ := y.use (gw.trans x2.g) x2.s
    have hdrop : its.drop i = d :: its.drop (i + 1) := by
      rw [List.drop_eq_getElem_cons hi]
      congr 1
      rw [List.getElem?_eq_getElem hi] at hd
      exact Option.some.inj hd
    rw [hdrop] at e5
    simp only [compL, Option.bind_eq_some_iff, Option.map_eq_some_iff] at e5
    obtain ⟨⟨od, w3⟩, e9, ⟨rest', w4⟩, e10, e11⟩ := e5
    cases e11
    simp only [turnF, Option.bind_eq_some_iff] at e9
    obtain ⟨ρ1, e12, ⟨t, w5⟩, e13, e14⟩ := e9
    have hDoff : notR r Dd := hoffn Dd hD
    have hD3 : H3 Dd = some (.lst (bs.map V.ref)) := g3.h _ _ hDa
    have nn : ∀ {Ga Ha Gb Hb : Hp}, Ext r Ha Ga Hb Gb → ∀ q, notR r q → NT Ha q → Ga q = none → Gb q = none := fun {Ga Ha Gb Hb} x q h0 h1 h2 => by
      cases z : Gb q with
      | none => rfl
      | some o => exact absurd h2 (x.n q h0 h1 (by rw [z]; exact fun z => nomatch z))
    have hh : ∀ {Ga Ha Gb Hb : Hp}, Ext r Ha Ga Hb Gb → ∀ q, H1 q = none → Ha q ≠ none → Hb q = Ha q := fun {Ga Ha Gb Hb} x q h1 h2 => by
      cases z : Ha q with
      | none => exact absurd z h2
      | some o => exact x.f q o (hoffn q h1) z
    have nD3 : G3 Dd = none := nn g3.ext Dd hDoff ⟨_, hDa, rfl⟩ nD
    have va : VarOk G3 σ ρ := VarOk.mono P.var ((x1.g.trans x2.g).trans g3.g)
    refine ⟨G3, d, wipeE ρ vs, ρ1, g3.s, r3, va.wipe vs, by rw [wipeE_len, wipe_length]; exact P.len, e12, fun σ1 l1 l2 va1 o1' => ?_⟩
    have hw : wipe σ1 vs = wipe σ vs := by
      have e1 : wipe σ1 vs = wipe (wipe σ vs) vs := wipe_same l1 fun j hj => o1' j fun z => hj (hsl j z)
      rw [e1]
      exact wipe_same (wipe_length _ _) fun j hj => wipe_off hj
    refine ⟨hw, ?_⟩
    have P3 : Pre X.K ir σ1 H3 G3 r ρ1 wi := ⟨g3.s, o2.grow g3, va1, fun a s ns z => by
      obtain ⟨i', hi', hv⟩ := P.rowv a s ns z
      refine ⟨i', hi', ?_⟩
      have hn := hir i' hi'
      rw [o1' i' (fun z => hn (hsl i' z)), wipe_off hn]
      exact hv, by rw [l1, l2, wipeE_len, wipe_length]; exact P.len⟩
    refine ⟨G3, r, ρ1, wi, t, w5, P3, e13, fun H4 G4 x4 o4 => ?_⟩
    have X34 : Ext r H2 G2 H4 G4 := g3.ext.trans x4
    have X4 : Ext r H1 G1 H4 G4 := x2.trans X34
    have nD4 : G4 Dd = none := nn x4 Dd hDoff ⟨_, hD3, rfl⟩ nD3
    have hD4 : H4 Dd = some (.lst (bs.map V.ref)) := x4.f _ _ hDoff hD3
    have ra4 : RowsF G4 H4 bs rs := ra.move X34.g fun q hq => hh X34 q (fr q hq).1 (fr q hq).2.1.ne
    have fr4 : ∀ q ∈ bs, H1 q = none ∧ NT H4 q ∧ G4 q = none := fun q hq => ⟨(fr q hq).1, (fr q hq).2.1.eq (hh X34 q (fr q hq).1 (fr q hq).2.1.ne), nn X34 q (hoffn q (fr q hq).1) (fr q hq).2.1 (fr q hq).2.2⟩
    cases t with
    | false =>
      cases e14
      exact ⟨G4, _, bs, rs, _, rr, X4, nD4, o4, hD4, ra4, nd, fr4, e10, e6, e7, e8⟩
    | true =>
      simp only [if_true, Option.map_eq_some_iff] at e14
      obtain ⟨⟨z, w6⟩, e15, e16⟩ := e14
      cases e16
      have e6' : lstsD (z :: rest') = some rr := e6
      have e8' : rs.length + (rest'.length + 1) = ds.length := e8
      clear e6 e8
      cases z with
      | lst zs =>
        simp only [lstsD, Option.map_eq_some_iff] at e6'
        obtain ⟨rr', e6n, e17⟩ := e6'
        subst e17
        refine ⟨G4, r, ρ1, w5, zs, _, P3.next x4 o4, e15, fun p5 vs5 H5 G5 x5 o5 hp5 hg5 hl5 r5 => ?_⟩
        have X5 : Ext r H1 G1 H5 G5 := X4.trans x5
        have nD5 : G5 Dd = none := nn x5 Dd hDoff ⟨_, hD4, rfl⟩ nD4
        have hD5 : H5 Dd = some (.lst (bs.map V.ref)) := x5.f _ _ hDoff hD4
        have hne : Dd ≠ p5 := fun z => by rw [← z, hD4] at hp5; cases hp5
        have hl : (bs.map V.ref).length < sizeLine := by
          rw [List.length_map, ra.len]
          omega
        refine ⟨_, hD5, hl, G5, _, bs ++ [p5], rs ++ [zs], _, rr', ⟨X5.g, fun b o e => ?_, fun p o n e => ?_, X5.n, fun p h => ?_⟩, nD5, ?_, ?_, ?_, ?_, fun q hq => ?_, e10, e6n, ?_, ?_⟩
        · rw [upd_ne (fun z => by rw [z, nD5] at e; cases e)]; exact X5.s _ _ e
        · rw [upd_ne (ne_of_none e hD)]; exact X5.f p o n e
        · by_cases hp : p = Dd
          · subst hp; exact absurd hD h
          · rw [upd_ne hp]; exact X5.m p h
        · refine o1.move (fun p o n e => by rw [upd_ne (ne_of_none e hD)]; exact X5.f p o n e) o5 fun a s ns z => ?_
          have : a ≠ Dd := fun e => hDoff a s ns z e.symm
          refine ⟨upd_ne this, ?_⟩
          subst z
          cases w6 with
          | none => exact o5.elim
          | some z => exact o5.2.1
        · rw [upd_same, List.map_append]; rfl
        · refine RowsF.snoc ((upd_ne hne.symm).trans hl5) r5 (ra4.move x5.g fun q hq => ?_)
          rw [upd_ne (fun z => (List.nodup_cons.mp nd).1 (by rw [← z]; exact hq))]
          exact hh x5 q (fr4 q hq).1 (fr4 q hq).2.1.ne
        · have np : p5 ∉ bs := fun z => (fr4 p5 z).2.1.ne hp5
          rw [← List.cons_append]
          refine List.nodup_append.mpr ⟨nd, by simp, fun a ha b hb => ?_⟩
          rw [List.mem_singleton] at hb
          subst hb
          rintro rfl
          rcases List.mem_cons.mp ha with z | z
          · exact hne z.symm
          · exact np z
        · rcases List.mem_append.mp hq with hq | hq
          · refine ⟨(fr4 q hq).1, ?_, nn x5 q (hoffn q (fr4 q hq).1) (fr4 q hq).2.1 (fr4 q hq).2.2⟩
            exact (fr4 q hq).2.1.eq ((upd_ne (fun z => (List.nodup_cons.mp nd).1 (by rw [← z]; exact hq))).trans (hh x5 q (fr4 q hq).1 (fr4 q hq).2.1.ne))
          · rw [List.mem_singleton] at hq
            subst hq
            exact ⟨none_of X4.m hp5, ⟨_, (upd_ne hne.symm).trans hl5, rfl⟩, hg5⟩
        · rw [e7, List.append_assoc]; rfl
        · simp only [List.length_append, List.length_cons, List.length_nil]
          omega
      | _ => cases e6'
  · rintro H2 ⟨G2, wi, bs, rs, rest, rr, x2, nD, o2, hDa, ra, nd, fr, e5, e6, e7, e8⟩
    rw [List.drop_length] at e5
    simp only [compL] at e5
    cases e5
    cases e6
    rw [List.append_nil] at e7
    subst e7
    refine q Dd bs H2 G2 (x1.trans x2) o2 nd (fun q hq => ?_) hDa ra
    rcases List.mem_cons.mp hq with z | z
    · subst z
      exact ⟨none_of x1.m hD, ⟨_, hDa, rfl⟩, nD⟩
    · exact ⟨none_of x1.m (fr q z).1, (fr q z).2⟩
variable {n i : Nat} {st : Stmt} {e : E} {md : Md} {T : TE}
theorem k_new2 (hT : ∀ σ H Q, RLL F X.K ir e σ H Q → T σ H Q) (hp : PS X st (tAsg T (gName i))) (hi : i < n) (hr : ir ≠ some i) : PS X st (TSt F X.K ir n (.new2 i md e)) := PS.imp hp fun D σ H h => by
  obtain ⟨B, s, w, G, own, res, hn, R, e, f⟩ := h
  simp only [rs, Option.bind_eq_some_iff, Option.map_eq_some_iff] at e
  obtain ⟨⟨d, s1, w1⟩, e1, ds, e2, dss, e3, e4⟩ := e
  have e2 : asLs d = some ds := e2
  obtain rfl := asLs_some e2
  cases e4
  obtain ⟨G1, ρ, P, e5, c⟩ := ev_md1 R e1
  refine hT _ _ _ ⟨G1, B.r, ρ, w, ds, dss, w1, P, e5, e3, fun p bs H1 G1' x o nd fr hl rp => ?_⟩
  obtain ⟨own2, R2, _, fr2⟩ := c H1 G1' x o
  refine f _ _ _ _ (R2.give (p :: bs) (fun q hq => fr2 q (fr q hq).1 (fr q hq).2.1 (fr q hq).2.2) (by rw [R2.len.1, hn]; exact hi) hr ?_)
  exact ⟨p, bs, rfl, if_pos (by simp), hl, nd, rp.rows fun q hq => if_pos (by simp [hq])⟩
end
end Lt

set_option Elab.async false
set_option linter.all false
set_option maxRecDepth 100000
set_option maxHeartbeats 1000000
/-! LtMb: new lists by an operator; several stores, some of them in a list. -/
namespace Lt
open PySem PySem.Spec PyProof.Rows L2
def rD21 (f : D → D → Option D) : R2 := fun v u H Q => ∃ G x y ds, Same G H ∧ Rep G v x ∧ Rep G u y ∧ f x y = some (.lst ds) ∧ ∀ l us, H l = none → Reps G us ds → Q (.ref l) (upd H l (.lst us))
section
variable {X : Cx} {F : Orc} {ir : Option Nat} {n : Nat} {pos : Pos}
theorem ok_lst1 {op : Operator} (ho : op = .Mult ∨ op = .Add) : OpR X (binaryOp op) (rD21 (opD op)) := by
  intro pins s σ H x y v u Q I rx ry h
  obtain ⟨G, a, b, ds, sb, ha, hb, e, q⟩ := h
  rcases ho with rfl | rfl
  · cases ha with
    | @lst p vs es g1 r1 => cases hb with
      | int k =>
        simp only [opD] at e
        split at e
        · rename_i c
          simp only [Bool.and_eq_true, decide_eq_true_eq] at c
          obtain ⟨⟨c1, c2⟩, c3⟩ := c
          cases e
          exact op_rep pins s σ H _ _ v u Q I rx ry ⟨p, k, vs, rfl, rfl, sb _ _ g1, by omega, by omega, by rw [r1.length]; exact of_decide_eq_true c3, fun p' hp => q p' _ hp (r1.flat k.toNat)⟩
        · cases e
      | _ => cases e
    | int i => cases hb <;> first
      | (simp only [opD] at e; split at e <;> cases e; done)
      | (cases e; done)
    | tup g1 r1 => cases hb <;> first
      | (simp only [opD] at e; split at e <;> cases e; done)
      | (cases e; done)
    | _ => cases e
  · cases ha with
    | @lst p vs es g1 r1 => cases hb with
      | @lst p2 us es2 g2 r2 =>
        simp only [opD] at e
        split at e
        · rename_i c
          cases e
          exact op_cat pins s σ H _ _ v u Q I rx ry ⟨p, p2, vs, us, rfl, rfl, sb _ _ g1, sb _ _ g2, by rw [r1.length, r2.length]; exact okLen_iff c, fun p' hp => q p' _ hp (r1.append r2)⟩
        · cases e
      | _ => cases e
    | int i => cases hb <;> first
      | (simp only [opD] at e; cases e; done)
      | (cases e; done)
    | tup g1 r1 => cases hb <;> first
      | (simp only [opD] at e; split at e <;> cases e; done)
      | (cases e; done)
    | _ => cases e
theorem e_bin1 {op : Operator} {a b : Expr} {ma mb : E} (ho : op = .Mult ∨ op = .Add) (ha : PE X a (RE F X.K ir ma)) (hb : PE X b (RE F X.K ir mb)) : PE X (.BinOp a op b pos) (R1 F X.K ir (.bin op ma mb)) := by
  refine PE.imp (pe_op (ok_lst1 ho) ha hb) fun σ H Q h => ?_
  obtain ⟨G, r, ρ, w, d, w', P, e, q⟩ := h
  simp only [ev, Option.bind_eq_some_iff, Option.map_eq_some_iff] at e
  obtain ⟨x, e1, y, e2, z, e3, e4⟩ := e
  cases e4
  refine ⟨G, r, ρ, w, x.1, x.2, P, e1, fun v1 H1 G1 x1 o1 r1 => ⟨G1, r, ρ, x.2, y.1, y.2, P.next x1 o1, e2, fun v2 H2 G2 x2 o2 r2 => ⟨G2, x.1, y.1, d, x2.s, r1.mono x2.g, r2, e3, fun p us hp ru => ?_⟩⟩⟩
  have x3 := x1.trans x2
  have hp0 : H p = none := none_of x3.m hp
  have nG : G2 p = none := Same.free x3.s hp
  refine q p us _ G2 ⟨x3.g, fun b o e => ?_, fun b o e n => ?_, x3.n, fun b h => ?_⟩ ?_ hp0 nG upd_same ru
  · rw [upd_ne (fun z => by rw [z, nG] at e; cases e)]; exact x3.s _ _ e
  · rw [upd_ne (ne_of_none n hp0)]; exact x3.f b o e n
  · by_cases hb : b = p
    · subst hb; exact absurd hp0 h
    · rw [upd_ne hb]; exact x3.m b h
  · refine P.row.move (fun b o n e => by rw [upd_ne (ne_of_none e hp0)]; exact x3.f b o n e) o2 fun a s ns z => ?_
    subst z
    cases hw : y.2 with
    | none => rw [hw] at o2; exact o2.elim
    | some z =>
      rw [hw] at o2
      refine ⟨upd_ne (fun e => ?_), o2.2.1⟩
      rw [← e, o2.1] at hp; cases hp
/-! ### several stores, some of them in a list: numbers, truth values, texts -/
def RTx (F : Orc) (K : PySem.W.Frag) (ir : Option Nat) (n : Nat) (ts : List Tx) : TGs := fun vs σ H Q => ∃ B s w G own ds s' w', B.n = n ∧ Rel K ir B σ H s w G own ∧ Reps G vs ds ∧ storesF F ts ds s w = some (s', w') ∧
  ∀ σ' H' G' own', Rel K ir B σ' H' s' w' G' own' → Q σ' H'
theorem tx_nil : PGs X [] (RTx F X.K ir n []) := by
  refine PGs.imp pgs_nil fun vs σ H Q h => ?_
  obtain ⟨B, s, w, G, own, ds, s', w', hn, R, rs, e, q⟩ := h
  cases rs with
  | nil => simp only [storesF] at e; cases e; exact ⟨rfl, q _ _ _ _ R⟩
  | cons _ _ => simp only [storesF] at e; cases e
theorem tx_n {x : Str} {px : Pos} {j : Nat} {es : List Expr} {ts : List Tx} (hN : X.N.Nodup) (hi : X.N[j]? = some x) (hx : Loc X.env.scope x) (hf : X.fn x = true ∨ X.env.scope.names.lookup x = some .local) (hr : ir ≠ some j)
    (h2 : PGs X es (RTx F X.K ir n ts)) : PGs X (.Name x px :: es) (RTx F X.K ir n (.n j :: ts)) := by
  refine PGs.imp (pgs_cons (pg_name hN hi hx hf) h2 (by rw [asg_of rfl]; rfl)) fun vs σ H Q h => ?_
  obtain ⟨B, s, w, G, own, ds, s', w', hn, R, rs, e, q⟩ := h
  cases rs with
  | nil => simp only [storesF] at e; cases e
  | @cons v d vs ds r rs =>
    simp only [storesF] at e
    split at e
    · rename_i hj
      exact ⟨v, vs, rfl, B, _, w, G, own, ds, s', w', hn, R.set r hj hr, rs, e, q⟩
    · cases e
theorem tx_c {x : Str} {p sp : Pos} {i : Nat} {a : E} {ea : Expr} {es : List Expr} {ts : List Tx} (hi : X.N[i]? = some x) (hv : Vis X.env.scope x) (hd : (x == ("__debug__" : Str)) = false) (hcd : (x == ("__classdict__" : Str)) = false) (ha : PE X ea (RE F X.K ir a))
    (has : ∀ v, assign (.Subscript (.Name x p) ea sp) X.env v = (do
      let ov ← holding [v] (eval (.Name x p) X.env)
      let iv ← holding [v, ov] (eval ea X.env)
      standAt sp
      holding [v, ov, iv] (setItem ov iv v)
      release [v, ov, iv] []))
    (h2 : PGs X es (RTx F X.K ir n ts)) : PGs X (.Subscript (.Name x p) ea sp :: es) (RTx F X.K ir n (.c i a :: ts)) := by
  refine PGs.imp (pgs_cons (pg_sub (pe_var hi hv hd hcd) ha set_list has) h2 (by rw [asg_of rfl]; rfl)) fun vs σ H Q h => ?_
  obtain ⟨B, s, w, G, own, ds, s', w', hn, R, rs, e, q⟩ := h
  cases rs with
  | nil => simp only [storesF] at e; cases e
  | @cons v d vs ds r rs =>
    simp only [storesF, Option.bind_eq_some_iff] at e
    obtain ⟨⟨k, s2, w2⟩, e2, sl, hds, l, e3, k', e4, j, hj, e5⟩ := e
    obtain rfl := Sl.asL_some e3
    dsimp only at e2 hds e4 e5
    obtain rfl := asI_some e4
    obtain ⟨_, rfl⟩ := evM_sc e2
    have hlt : i < s2.length := (List.getElem?_eq_some_iff.mp hds).1
    obtain ⟨a0, vs0, h1, h2, h3, h4⟩ := R.var i _ hds
    refine ⟨v, vs, rfl, _, h1, ?_⟩
    obtain ⟨G3, ρ3, P3, e6, c3⟩ := ev_md R e2
    refine ⟨G3, B.r, ρ3, w, _, w2, P3, e6, fun v3 H3 G3' x3 o3 rp3 => ?_⟩
    obtain ⟨G4, own4, R4, kp4, r4⟩ := c3 v3 H3 G3' x3 o3 rp3
    cases r4
    obtain ⟨a1, us, h5, h6, h7, h8⟩ := R4.var i _ hds
    rw [h1] at h5
    cases h5
    refine ⟨a0, us, k', j, rfl, rfl, h7, by rw [h8.length]; exact hj, B, _, w2, G4, own4, ds, s', w', hn, R4.put h6 hlt rfl ?_, rs.mono kp4.g, e5, q⟩
    exact ⟨a0, _, h1, h6, upd_same, Reps.set (r.mono kp4.g) j h8⟩
theorem asgs_of {env : PySem.Env} : ∀ es : List Expr, es.all notStar = true → (assignEach es env).length = es.length ∧ (assignEach es env).findIdx? (·.1) = none := by
  intro es
  induction es with
  | nil => intro _; exact ⟨rfl, rfl⟩
  | cons e es ih =>
    intro h
    rw [List.all_cons, Bool.and_eq_true] at h
    obtain ⟨i1, i2⟩ := ih h.2
    rw [asg_of h.1]
    refine ⟨by simp [i1], ?_⟩
    rw [List.findIdx?_cons]
    simp [i2]
theorem k_parS {ts : List Tx} {ms : List E} {tes es : List Expr} {pt pt2 : Pos} {kt k2 : Nat} (hc : X.calm = true) (ha : PA X es (RS F X.K ir ms)) (hg : PGs X tes (RTx F X.K ir n ts)) (hw : swappedStores [.Tuple tes kt pt] (.Tuple es k2 pt2) X.env = pure none) (hl : ms.length = 2 ∨ ms.length = 3) (hl2 : tes.length = ms.length) (hst : tes.all notStar = true) :
    PS X (.Assign [.Tuple tes kt pt] (.Tuple es k2 pt2) pos) (TSt F X.K ir n (.parS ts ms)) := by
  refine PS.imp (ps_asg (pe_tup ha) (pg_tup hc hg (asgs_of tes hst).1 (asgs_of tes hst).2) rfl hw rfl) fun D σ H h => ?_
  obtain ⟨B, s, w, G, own, res, hn, R, e, f⟩ := h
  simp only [rs, Option.bind_eq_some_iff, Option.map_eq_some_iff] at e
  obtain ⟨⟨ds, s1, w1⟩, e1, ⟨s2, w2⟩, e2, e3⟩ := e
  cases e3
  have hsc : ds.all isSc = true := by
    simp only [evsM, Option.bind_eq_some_iff] at e1
    obtain ⟨x, _, e1⟩ := e1
    split at e1
    · rename_i c; cases e1; exact c
    · cases e1
  obtain ⟨G1, ρ, P, e4, c⟩ := ev_mds R e1
  have hdl : ds.length = ms.length := evs_len F _ _ _ _ _ e4
  refine ⟨G1, B.r, ρ, w, ds, w1, P, e4, fun vs H1 G1' x1 o1 r1 => ?_⟩
  obtain ⟨G2, own2, R2, _, _⟩ := c H1 G1' x1 o1
  have hvl : vs.length = ms.length := by rw [r1.length, hdl]
  refine ⟨by rw [hvl]; rcases hl with z | z <;> rw [z] <;> decide, fun p hp => ?_⟩
  have R3 := R2.tup hp (.tup vs)
  exact ⟨p, vs, rfl, .of upd_same, by rw [hvl, hl2], B, s1, w1, G2, own2, ds, s2, w2, hn, R3, reps_sc hsc r1, e2, fun σ' H' G' own' R' => f _ _ _ _ R'⟩
end
end Lt

set_option Elab.async false
set_option linter.all false
set_option maxRecDepth 100000
set_option maxHeartbeats 8000000
/-! LtO: statements are sound. -/
namespace Lt
open PySem PySem.Spec PyProof.Rows L2
theorem shp1_lc {T : Tbl} {S : Cs} {o : X1} {e : Expr} (q : isLC e = true) : shp1 T S o e = none := by
  cases e <;> first
    | (cases q; done)
    | (cases o <;> rfl)
theorem shp2_lc {T : Tbl} {S : Cs} {o : X2} {e : Expr} (q : isLC e = true) : shp2 T S o e = none := by
  cases e <;> first
    | (cases q; done)
    | (cases o <;> rfl)
theorem sw_no {e : Expr} (h : isLC e = false) (t : Option Expr) (l : Nat) (env : PySem.Env) : swapsWith e t l env = pure false := by
  cases e <;> first | rfl | cases h
theorem sw_cell {ee : Expr} {gs : List Comprehension} {scope : Scope} {pos py : Pos} {y : Str} {l : Nat} {env : PySem.Env} (h : env.scope.names.lookup y ≠ some .local) : swapsWith (.ListComp ee gs scope pos) (some (.Name y py)) l env = pure false := by
  have e : (env.kindOf y == some NameKind.local) = false := beq_eq_false_iff_ne.mpr h
  unfold swapsWith
  simp only [e, Bool.and_false, Bool.false_and]
theorem sw_sole {e t : Expr} (h : isLC e = false) (l : Nat) (env : PySem.Env) : swapsWithSole [t] e l env = pure false := sw_no h _ _ _
theorem sw_tup {e : Expr} {ts : List Expr} {k : Nat} {p : Pos} (l : Nat) (env : PySem.Env) : swapsWithSole [.Tuple ts k p] e l env = pure false := by
  cases e <;> rfl
theorem sst_no {e t : Expr} (h : isTupE e = false) (env : PySem.Env) : swappedStores [t] e env = pure none := by
  unfold swappedStores
  cases e <;> first
    | (cases h; done)
    | (cases t <;> rfl)
theorem sst_nm {e t : Expr} (h : ∀ ts k p, t ≠ .Tuple ts k p) (h2 : ∀ ts p, t ≠ .List ts p) (env : PySem.Env) : swappedStores [t] e env = pure none := by
  unfold swappedStores
  cases t <;> first
    | exact absurd rfl (h _ _ _)
    | exact absurd rfl (h2 _ _)
    | (cases e <;> rfl)
theorem sw_eq {ts vs : List Expr} {k k2 : Nat} {p p2 : Pos} {env : PySem.Env} (hk : env.scope.kind = .function) {r : Option (List Str)} (h : swP env.scope ts vs = some r) : swappedStores [.Tuple ts k p] (.Tuple vs k2 p2) env = pure r := by
  have hb : (env.blockKind != .function) = false := by unfold Env.blockKind; rw [hk]; rfl
  unfold swP at h
  unfold swappedStores
  simp only [hb, Bool.or_false]
  have hko : ∀ id, env.kindOf id = env.scope.names.lookup id := fun _ => rfl
  simp only [hko]
  split at h
  · rename_i c; cases h; exact if_pos c
  rename_i c; refine Eq.trans (if_neg c) ?_
  split at h
  · rename_i c2; cases h; exact if_pos c2
  rename_i c2; refine Eq.trans (if_neg c2) ?_
  dsimp only at h
  split at h
  · rename_i c3; cases h; exact if_pos c3
  rename_i c3; refine Eq.trans (if_neg c3) ?_
  split at h
  · rename_i c4; cases h; exact if_pos c4
  rename_i c4; refine Eq.trans (if_neg c4) ?_
  split at h
  · cases h
  rename_i c5; refine Eq.trans (if_neg c5) ?_
  cases h
  rfl
theorem asg_sub {o i : Expr} {pos : Pos} {env : PySem.Env} (h : notSlice i = true) : ∀ v, assign (.Subscript o i pos) env v = (do
      let ov ← holding [v] (eval o env)
      let iv ← holding [v, ov] (eval i env)
      standAt pos
      holding [v, ov, iv] (setItem ov iv v)
      release [v, ov, iv] []) := by
  intro v
  cases i <;> first | rfl | cases h
structure CxS (P : Program) (w : World) (K : PySem.W.Frag) (mg : Str → Option Value) (base : Heap) (k : Nat) (S : Cs) (X : Cx) : Prop extends CxOk P w K mg base k S X where
  pass : PassesOwn (model X.prog X.w) X.A X.env X.xe
section
variable {P : Program} {w : World} {K : PySem.W.Frag} {mg : Str → Option Value} {base : Heap} {k : Nat} {F : Orc} {T : Tbl}
theorem tg_of {S : Cs} {X : Cx} (C : CxOk P w K mg base k S X) {i : Nat} {x : Str} (h : tgB S i x = true) : X.N.Nodup ∧ X.N[i]? = some x ∧ Loc X.env.scope x ∧ (X.fn x = true ∨ X.env.scope.names.lookup x = some .local) ∧ S.ir ≠ some i ∧ i < S.N.length := by
  unfold tgB locB at h
  simp only [Bool.and_eq_true, decide_eq_true_eq] at h
  obtain ⟨⟨h1, h2⟩, h3⟩ := h
  refine ⟨by rw [C.N]; exact C.nd, by rw [C.N]; exact h1, ?_, ?_, h3, (List.getElem?_eq_some_iff.mp h1).1⟩
  · rw [C.sc]
    unfold L2.Loc
    split at h2 <;> first
      | (rename_i q; exact .inl q)
      | (rename_i q; exact .inr q)
      | cases h2
  · rw [C.sc, C.fn]
    split at h2 <;> first
      | (rename_i q; exact .inr q)
      | exact .inl h2
      | cases h2
structure LCp (X : Cx) (F : Orc) (ir : Option Nat) (own : List (Str × Nat)) (tg : Tg) (ik : IK) (ms : List E) (cond : Option E) (te ie : Expr) (ifs : List Expr) (scope : Scope) : Prop where
  hi : PI X te ie (RI F X.K ir ik ms)
  ok : BlkOk X.N X.env.scope scope own
  hg : ∀ (s : Shared) (H : Hp) (C : Addr) (cl : List (Str × Addr)) (fp : List Addr), PG (X.blk s H scope (compEnvC scope cl C X.env) fp) te (RT tg)
  ht : ∀ (s : Shared) (H : Hp) (C : Addr) (cl : List (Str × Addr)) (fp : List Addr), PTs (X.blk s H scope (compEnvC scope cl C X.env) fp) ifs (RC F X.K ir cond)
  hs : notSet ie = true
  hsl : ∀ j ∈ tg.slots, j ∈ own.map (·.2)
  hir : ∀ i, ir = some i → i ∉ own.map (·.2)
structure LCp2 (X : Cx) (F : Orc) (ir : Option Nat) (own : List (Str × Nat)) (tg : Tg) (ik : IK) (ms : List E) (cond : Option E) (tg1 : Tg) (ik1 : IK) (ms1 : List E) (cond1 : Option E) (te ie : Expr) (ifs : List Expr) (te1 ie1 : Expr) (ifs1 : List Expr) (scope : Scope) : Prop where
  l : LCp X F ir own tg ik ms cond te ie ifs scope
  hi1 : ∀ (s : Shared) (H : Hp) (C : Addr) (cl : List (Str × Addr)) (fp : List Addr), PI (X.blk s H scope (compEnvC scope cl C X.env) fp) te1 ie1 (RI F X.K ir ik1 ms1)
  hg1 : ∀ (s : Shared) (H : Hp) (C : Addr) (cl : List (Str × Addr)) (fp : List Addr), PG (X.blk s H scope (compEnvC scope cl C X.env) fp) te1 (RT tg1)
  ht1 : ∀ (s : Shared) (H : Hp) (C : Addr) (cl : List (Str × Addr)) (fp : List Addr), PTs (X.blk s H scope (compEnvC scope cl C X.env) fp) ifs1 (RC F X.K ir cond1)
  hs1 : notSet ie1 = true
  hsl1 : ∀ j ∈ tg1.slots, j ∈ own.map (·.2)
variable (Γ : Gam P w K mg base k F T)
include Γ
theorem sLC2 {S : Cs} {X : Cx} (C : CxOk P w K mg base k S X) {own : List Nat} {tg : Tg} {ik : IK} {ms : List E} {cond : Option E} {tg1 : Tg} {ik1 : IK} {ms1 : List E} {cond1 : Option E} {elt : E} {e : Expr} (h : chkE T (.comp2 own tg ik ms cond tg1 ik1 ms1 cond1 elt) S e = true) :
    ∃ ee te ie ifs te1 ie1 ifs1 scope pos ow, e = .ListComp ee [⟨te, ie, ifs, 0⟩, ⟨te1, ie1, ifs1, 0⟩] scope pos ∧ ow.map (·.2) = own ∧ LCp2 X F S.ir ow tg ik ms cond tg1 ik1 ms1 cond1 te ie ifs te1 ie1 ifs1 scope ∧ chkE T elt (blkS S scope) ee = true := by
  unfold chkE at h
  split at h
  · rename_i ee te ie ifs n te1 ie1 ifs1 n1 scope pos
    simp only [Bool.and_eq_true, decide_eq_true_eq, List.all_eq_true] at h
    obtain ⟨⟨⟨⟨⟨⟨⟨⟨⟨⟨⟨⟨⟨⟨rfl, rfl⟩, h2⟩, h2b⟩, h3⟩, h4⟩, h5⟩, h6⟩, h3b⟩, h5b⟩, h6b⟩, h7⟩, h8⟩, h8b⟩, h9⟩ := h
    have hown : (own.map fun i => (S.N.getD i "", i)).map (·.2) = own := by
      clear h3 h4 h8 h8b h9
      induction own with
      | nil => rfl
      | cons i r ih => rw [List.map_cons, List.map_cons, ih]
    have hi := sI Γ ik ms S X te ie C (fun l hl => sEs Γ ms S X l C hl) h3
    have hc := fun s H Cc cl fp => sC Γ cond (blkS S scope) _ ifs (C.blk scope s H Cc cl fp) h6
    have hg := fun s H Cc cl fp => sG tg (blkS S scope) _ te (C.blk scope s H Cc cl fp) h5
    have hc1 := fun s H Cc cl fp => sC Γ cond1 (blkS S scope) _ ifs1 (C.blk scope s H Cc cl fp) h6b
    have hg1 := fun s H Cc cl fp => sG tg1 (blkS S scope) _ te1 (C.blk scope s H Cc cl fp) h5b
    have hi1 := fun s H Cc cl fp => sI Γ ik1 ms1 (blkS S scope) _ te1 ie1 (C.blk scope s H Cc cl fp) (fun l hl => sEs Γ ms1 (blkS S scope) _ l (C.blk scope s H Cc cl fp) hl) h3b
    obtain ⟨cP, cw, cK, cm, cb, cc, cr, cN, cnd, csc, cfn⟩ := id C
    subst cP cw cK cm cb
    refine ⟨ee, te, ie, ifs, te1, ie1, ifs1, scope, pos, own.map fun i => (S.N.getD i "", i), rfl, hown, ⟨⟨hi, blkOk_by (by rw [cN, csc]; exact h4), hg, hc, h2, by rw [hown]; exact h8, ?_⟩, hi1, hg1, hc1, h2b, by rw [hown]; exact h8b⟩, h7⟩
    rw [hown]
    intro i hi
    rw [hi] at h9
    exact of_decide_eq_true h9
  · cases h
theorem sLC {S : Cs} {X : Cx} (C : CxOk P w K mg base k S X) {own : List Nat} {tg : Tg} {ik : IK} {ms : List E} {cond : Option E} {elt : E} {e : Expr} (h : chkE T (.comp own tg ik ms cond elt) S e = true) :
    ∃ ee te ie ifs scope pos ow, e = .ListComp ee [⟨te, ie, ifs, 0⟩] scope pos ∧ ow.map (·.2) = own ∧ LCp X F S.ir ow tg ik ms cond te ie ifs scope ∧ chkE T elt (blkS S scope) ee = true := by
  unfold chkE at h
  split at h
  · rename_i ee te ie ifs n scope pos
    simp only [Bool.and_eq_true, decide_eq_true_eq, List.all_eq_true] at h
    obtain ⟨⟨⟨⟨⟨⟨⟨⟨rfl, h2⟩, h3⟩, h4⟩, h5⟩, h6⟩, h7⟩, h8⟩, h9⟩ := h
    have hown : (own.map fun i => (S.N.getD i "", i)).map (·.2) = own := by
      clear h3 h4 h8 h9
      induction own with
      | nil => rfl
      | cons i r ih => rw [List.map_cons, List.map_cons, ih]
    have hi := sI Γ ik ms S X te ie C (fun l hl => sEs Γ ms S X l C hl) h3
    have hc := fun s H Cc cl fp => sC Γ cond (blkS S scope) _ ifs (C.blk scope s H Cc cl fp) h6
    have hg := fun s H Cc cl fp => sG tg (blkS S scope) _ te (C.blk scope s H Cc cl fp) h5
    obtain ⟨cP, cw, cK, cm, cb, cc, cr, cN, cnd, csc, cfn⟩ := id C
    subst cP cw cK cm cb
    refine ⟨ee, te, ie, ifs, scope, pos, own.map fun i => (S.N.getD i "", i), rfl, hown, ⟨hi, blkOk_by (by rw [cN, csc]; exact h4), hg, hc, h2, by rw [hown]; exact h8, ?_⟩, h7⟩
    rw [hown]
    intro i hi
    rw [hi] at h9
    exact of_decide_eq_true h9
  · cases h
theorem sE1 {S : Cs} {X : Cx} (C : CxOk P w K mg base k S X) {m : E} {e : Expr} (hm : mkLst m = true) (h : chkE T m S e = true) : PE X e (R1 F K S.ir m) := by
  cases m with
  | lst ms =>
    unfold chkE at h
    split at h
    · have := (sEs Γ ms S X _ C h).1
      rw [← C.K] at this ⊢
      exact e_lst1 this
    · cases h
  | comp own tg ik ms cond elt =>
    obtain ⟨ee, te, ie, ifs, scope, pos, ow, rfl, rfl, L, h7⟩ := sLC Γ C h
    have he := fun s H Cc cl fp => (sE Γ elt (blkS S scope) _ ee (C.blk scope s H Cc cl fp) h7).1
    have := C.K
    subst this
    exact e_comp1 C.calm (by rw [C.N]; exact C.nd) L.hi L.ok L.hg L.ht he L.hs L.hsl L.hir
  | comp2 own tg ik ms cond tg1 ik1 ms1 cond1 elt =>
    obtain ⟨ee, te, ie, ifs, te1, ie1, ifs1, scope, pos, ow, rfl, rfl, L, h7⟩ := sLC2 Γ C h
    have he := fun s H Cc cl fp => (sE Γ elt (blkS S scope) _ ee (C.blk scope s H Cc cl fp) h7).1
    have := C.K
    subst this
    exact PE.imp (pe_lc2 C.calm (by rw [C.N]; exact C.nd) L.l.hi L.l.ok L.hsl1 L.l.hg L.l.ht L.hi1 L.hg1 L.ht1 he (set_of L.l.hs X.env) (fun env => set_of L.hs1 env)) fun σ H Q h => rd_compT L.l.hsl L.hsl1 L.l.hir h
  | blt b ms =>
    cases b <;> first
      | (cases hm; done)
      | (unfold chkE at h
         split at h
         · simp only [Bool.and_eq_true, decide_eq_true_eq] at h
           obtain ⟨⟨⟨⟨rfl, h2⟩, h3⟩, h4⟩, h5⟩ := h
           have ha := (sEs Γ ms S X _ C h5).1
           rw [← C.K] at ha ⊢
           obtain ⟨g1, g2⟩ := fr_of Γ C h2
           exact e_list1 g1 g2 (by decide +kernel) (by decide +kernel) (by decide +kernel) ha h3 h4
         · cases h)
  | bin op a b =>
    obtain ⟨ho, ms, rfl⟩ := mkLst_bin hm
    unfold chkE at h
    split at h
    · simp only [Bool.and_eq_true, decide_eq_true_eq] at h
      obtain ⟨⟨rfl, h2⟩, h3⟩ := h
      have ha := (sE Γ _ S X _ C h2).1
      have hb := (sE Γ b S X _ C h3).1
      rw [← C.K] at ha hb ⊢
      exact e_bin1 ho ha hb
    · cases h
  | _ => cases hm
/-- a store of what is worked out, whatever road the machine takes -/
theorem set_any {S : Cs} {X : Cx} (C : CxOk P w K mg base k S X) {i : Nat} {x : Str} {px pos : Pos} {m : E} {e : Expr} (h1 : tgB S i x = true) (h2 : lcB S x px e = true) (h3 : chkE T m S e = true) :
    ∃ Te : TE, PS X (.Assign [.Name x px] e pos) (tAsg Te (gName i)) ∧ (∀ σ H Q, RE F K S.ir m σ H Q → Te σ H Q) ∧ (mkLst m = true → ∀ σ H Q, R1 F K S.ir m σ H Q → Te σ H Q) := by
  obtain ⟨hN, hi, hx, hf, hr, hl⟩ := tg_of C h1
  cases q : isLC e with
  | false =>
    cases hm : mkLst m with
    | true => exact ⟨_, ps_set hN hi hx (sE1 Γ C hm h3) (sw_no q _ _ _) hf, fun σ H Q h => re_r1 hm h, fun _ σ H Q h => h⟩
    | false => exact ⟨_, ps_set hN hi hx (sE Γ m S X e C h3).1 (sw_no q _ _ _) hf, fun σ H Q h => h, fun z => nomatch z⟩
  | true =>
    by_cases hn : m = .never
    · subst hn
      refine ⟨fun _ _ _ => False, PS.imp ps_never fun D σ H h => h, fun σ H Q h => ?_, fun z => nomatch z⟩
      obtain ⟨G, r, ρ, w, d, w', P, e, q⟩ := h
      simp only [ev] at e; cases e
    · have hmc : (∃ own tg ik ms cond elt, m = .comp own tg ik ms cond elt) ∨ ∃ own tg ik ms cond tg1 ik1 ms1 cond1 elt, m = .comp2 own tg ik ms cond tg1 ik1 ms1 cond1 elt := by
        cases e <;> first
          | (cases q; done)
          | (cases m <;> first
              | exact .inl ⟨_, _, _, _, _, _, rfl⟩
              | exact .inr ⟨_, _, _, _, _, _, _, _, _, _, rfl⟩
              | exact absurd rfl hn
              | (unfold chkE at h3; cases h3; done)
              | (unfold chkE at h3; dsimp only at h3; cases h3; done)
              | (unfold chkE at h3; rw [shp1_lc q] at h3; cases h3; done)
              | (unfold chkE at h3; rw [shp2_lc q] at h3; cases h3; done)
              | (simp [chkE] at h3; done))
      rcases hmc with ⟨own, tg, ik, ms, cond, elt, rfl⟩ | ⟨own, tg, ik, ms, cond, tg1, ik1, ms1, cond1, elt, rfl⟩
      rotate_left
      · obtain ⟨ee, te, ie, ifs, te1, ie1, ifs1, scope, pos', ow, rfl, rfl, L, h7⟩ := sLC2 Γ C h3
        have he := fun s H Cc cl fp => (sE Γ elt (blkS S scope) _ ee (C.blk scope s H Cc cl fp) h7).1
        unfold lcB at h2
        simp only [Bool.or_eq_true, Bool.and_eq_true, decide_eq_true_eq, Bool.not_eq_true'] at h2
        rcases h2 with h2 | h2
        · exact ⟨_, ps_set hN hi hx (sE1 Γ C rfl h3) (sw_cell (by rw [C.sc]; exact h2)) hf, fun σ H Q h => re_r1 rfl h, fun _ σ H Q h => h⟩
        obtain ⟨⟨⟨k1, k2⟩, k3⟩, k4⟩ := h2
        have := C.K
        subst this
        refine ⟨_, ps_setLc2 C.calm hN hi (by rw [C.sc]; exact k2) (sw_true (by rw [C.sc]; exact k1) (by rw [C.sc]; exact k2) k3 k4) L.l.hi L.l.ok L.hsl1 L.l.hg L.l.ht L.hi1 L.hg1 L.ht1 he (set_of L.l.hs X.env) (fun env => set_of L.hs1 env), fun σ H Q h => rd_compT L.l.hsl L.hsl1 L.l.hir (re_r1 rfl h), fun _ σ H Q h => rd_compT L.l.hsl L.hsl1 L.l.hir h⟩
      obtain ⟨ee, te, ie, ifs, scope, pos', ow, rfl, rfl, L, h7⟩ := sLC Γ C h3
      have he := fun s H Cc cl fp => (sE Γ elt (blkS S scope) _ ee (C.blk scope s H Cc cl fp) h7).1
      unfold lcB at h2
      simp only [Bool.or_eq_true, Bool.and_eq_true, decide_eq_true_eq, Bool.not_eq_true'] at h2
      rcases h2 with h2 | h2
      · exact ⟨_, ps_set hN hi hx (sE1 Γ C rfl h3) (sw_cell (by rw [C.sc]; exact h2)) hf, fun σ H Q h => re_r1 rfl h, fun _ σ H Q h => h⟩
      obtain ⟨⟨⟨k1, k2⟩, k3⟩, k4⟩ := h2
      have := C.K
      subst this
      refine ⟨_, ps_setLc C.calm hN hi (by rw [C.sc]; exact k2) (sw_true (by rw [C.sc]; exact k1) (by rw [C.sc]; exact k2) k3 k4) L.hi L.ok L.hg L.ht he (set_of L.hs X.env), fun σ H Q h => rd_comp L.hsl L.hir (re_r1 rfl h), fun _ σ H Q h => rd_comp L.hsl L.hir h⟩
theorem set_any2 {S : Cs} {X : Cx} (C : CxOk P w K mg base k S X) {i : Nat} {x : Str} {px pos : Pos} {own : List Nat} {tg : Tg} {ik : IK} {ms : List E} {cond : Option E} {elt : E} {e : Expr} (h1 : tgB S i x = true) (h2 : lcB S x px e = true) (hm : mkLst elt = true) (h3 : chkE T (.comp own tg ik ms cond elt) S e = true) :
    ∃ Te : TE, PS X (.Assign [.Name x px] e pos) (tAsg Te (gName i)) ∧ (∀ σ H Q, RLL F K S.ir (.comp own tg ik ms cond elt) σ H Q → Te σ H Q) := by
  obtain ⟨hN, hi, hx, hf, hr, hl⟩ := tg_of C h1
  obtain ⟨ee, te, ie, ifs, scope, pos', ow, rfl, rfl, L, h7⟩ := sLC Γ C h3
  have he := fun s H Cc cl fp => sE1 Γ (C.blk scope s H Cc cl fp) hm h7
  unfold lcB at h2
  simp only [Bool.or_eq_true, Bool.and_eq_true, decide_eq_true_eq, Bool.not_eq_true'] at h2
  have := C.K
  subst this
  rcases h2 with h2 | h2
  · exact ⟨_, ps_set hN hi hx (PE.imp (pe_lc C.calm hN L.hi L.ok L.hg L.ht he (set_of L.hs X.env)) fun σ H Q h => rd_comp2 L.hsl L.hir h) (sw_cell (by rw [C.sc]; exact h2)) hf, fun σ H Q h => h⟩
  obtain ⟨⟨⟨k1, k2⟩, k3⟩, k4⟩ := h2
  exact ⟨_, ps_setLc C.calm hN hi (by rw [C.sc]; exact k2) (sw_true (by rw [C.sc]; exact k1) (by rw [C.sc]; exact k2) k3 k4) L.hi L.ok L.hg L.ht he (set_of L.hs X.env), fun σ H Q h => rd_comp2 L.hsl L.hir h⟩
theorem sTxs {S : Cs} {X : Cx} (C : CxOk P w K mg base k S X) : ∀ (ts : List Tx) (es : List Expr), chkTxs T S ts es = true → PGs X es (RTx F X.K S.ir S.N.length ts) ∧ es.length = ts.length ∧ es.all notStar = true
  | [], es, h => by
    unfold chkTxs at h
    rw [List.isEmpty_iff] at h
    subst h
    exact ⟨tx_nil, rfl, rfl⟩
  | t :: ts, es, h => by
    unfold chkTxs at h
    split at h
    · rename_i e es
      simp only [Bool.and_eq_true] at h
      obtain ⟨⟨h1, h2⟩, h3⟩ := h
      obtain ⟨k1, k2, k3⟩ := sTxs C ts es h3
      refine ⟨?_, by simp [k2], by simp [h1, k3]⟩
      cases t with
      | n j =>
        unfold chkTx at h2; dsimp only at h2
        split at h2
        · obtain ⟨hN, hi, hx, hf, hr, hl⟩ := tg_of C h2
          exact tx_n hN hi hx hf hr k1
        · cases h2
      | c i a =>
        unfold chkTx at h2; dsimp only at h2
        split at h2
        · simp only [Bool.and_eq_true] at h2
          obtain ⟨⟨g1, g2⟩, g3⟩ := h2
          obtain ⟨hi, hv, hd, hcd⟩ := nm_of C g1
          have ha := (sE Γ a S X _ C g3).1
          rw [← C.K] at ha
          exact tx_c hi hv hd hcd ha (asg_sub g2) k1
        · cases h2
    · cases h
theorem pok_of {S : Cs} {X : Cx} (C : CxOk P w K mg base k S X) {p : PM} {e : Expr} (h : (match p.k with | .fr => chkE T p.m S e | .l => mkLst p.m && chkE T p.m S e | .d => (match e with | .Dict [] [] _ => true | _ => false)) = true) : POk X F S.ir p e := by
  obtain ⟨pi, pk, pmd, pm⟩ := p
  have hK := C.K
  cases pk with
  | fr =>
    show PE X e (RE F X.K S.ir pm)
    rw [hK]
    exact (sE Γ pm S X e C h).1
  | l =>
    show PE X e (R1 F X.K S.ir pm)
    rw [hK]
    have h : (mkLst pm && chkE T pm S e) = true := h
    rw [Bool.and_eq_true] at h
    exact sE1 Γ C h.1 h.2
  | d =>
    show PE X e tDNewT
    dsimp only at h
    split at h
    · exact pe_dnewT
    · cases h
theorem sPs {S : Cs} {X : Cx} (C : CxOk P w K mg base k S X) : ∀ (ps : List PM) (ts es : List Expr), chkPs T S ps ts es = true → PA X es (RPs F X.K S.ir ps) ∧ ts.length = ps.length ∧ es.length = ps.length
  | [], ts, es, h => by
    unfold chkPs at h
    rw [Bool.and_eq_true, List.isEmpty_iff, List.isEmpty_iff] at h
    obtain ⟨rfl, rfl⟩ := h
    exact ⟨ps_nilM, rfl, rfl⟩
  | p :: ps, ts, es, h => by
    unfold chkPs at h
    split at h
    · simp only [Bool.and_eq_true] at h
      obtain ⟨⟨⟨h1, h4⟩, h5⟩, h6⟩ := h
      obtain ⟨k1, k2, k3⟩ := sPs C ps _ _ h6
      exact ⟨ps_consM (pok_of Γ C h5) k1 h4, by simp [k2], by simp [k3]⟩
    · cases h
end
end Lt

set_option Elab.async false
set_option linter.all false
set_option maxRecDepth 100000
set_option maxHeartbeats 8000000
/-! LtP: statements are sound: all kinds. -/
namespace Lt
open PySem PySem.Spec PyProof.Rows L2
theorem nodup2 {a b : Nat} (h : [a, b].Nodup) : a ≠ b := by
  simp only [List.nodup_cons, List.mem_singleton] at h
  exact h.1
section
variable {P : Program} {w : World} {K : PySem.W.Frag} {mg : Str → Option Value} {base : Heap} {k : Nat} {F : Orc} {T : Tbl}
variable (Γ : Gam P w K mg base k F T)
include Γ
mutual
theorem sS : ∀ (m : Sx) (S : Cs) (X : Cx) (st : Stmt), CxS P w K mg base k S X → chkS T m S st = true → PS X st (TSt F K S.ir S.N.length m)
  | .never, S, X, st, C, h => by
    have := C.K; subst this
    exact k_never
  | .set i md m, S, X, st, C, h => by
    unfold chkS at h
    split at h
    · rename_i x px e pos
      simp only [Bool.and_eq_true] at h
      obtain ⟨Te, hp, hT, _⟩ := set_any Γ C.toCxOk (pos := pos) h.1.1 h.1.2 h.2
      obtain ⟨_, _, _, _, hr, hl⟩ := tg_of C.toCxOk h.1.1
      have := C.K; subst this
      exact k_set hT hp hl hr
    · cases h
  | .new1 i md m, S, X, st, C, h => by
    unfold chkS at h
    split at h
    · rename_i x px e pos
      simp only [Bool.and_eq_true] at h
      obtain ⟨⟨⟨h1, h2⟩, h3⟩, h4⟩ := h
      obtain ⟨Te, hp, _, hT⟩ := set_any Γ C.toCxOk (pos := pos) h1 h2 h4
      obtain ⟨_, _, _, _, hr, hl⟩ := tg_of C.toCxOk h1
      have := C.K; subst this
      exact k_new1 (hT h3) hp hl hr
    · cases h
  | .new2 i md m, S, X, st, C, h => by
    unfold chkS at h
    split at h
    · rename_i x px e pos
      simp only [Bool.and_eq_true] at h
      obtain ⟨⟨⟨h1, h2⟩, h3⟩, h4⟩ := h
      cases m with
      | comp own tg ik ms cond elt =>
        obtain ⟨Te, hp, hT⟩ := set_any2 Γ C.toCxOk (pos := pos) h1 h2 h3 h4
        obtain ⟨_, _, _, _, hr, hl⟩ := tg_of C.toCxOk h1
        have := C.K; subst this
        exact k_new2 hT hp hl hr
      | _ => cases h3
    · cases h
  | .newD i, S, X, st, C, h => by
    unfold chkS at h
    split at h
    · obtain ⟨hN, hi, hx, hf, hr, hl⟩ := tg_of C.toCxOk h
      have := C.K; subst this
      refine PS.imp (ps_set hN hi hx pe_dnewT rfl hf) fun D σ H q => ?_
      obtain ⟨B, s, w, G, own, res, hn, R, e, f⟩ := q
      simp only [rs] at e
      cases e
      intro p hp
      have hG : G p = none := Same.free R.ext.s hp
      have sm : Same H (upd H p (.dT [])) := same_new hp
      have hop : own p = none := by
        cases z : own p with
        | none => rfl
        | some j => exact absurd hp (R.own p j z).2.1.ne
      have R2 : Rel X.K S.ir B σ (upd H p (.dT [])) s w G own := R.grow (fun b o _ e => sm _ _ e) (fun b => same_ne sm) (.refl _) (R.ext.s.trans sm) (fun _ _ _ h => h)
        (R.row.move (fun b o _ e => sm _ _ e) R.row fun a t ns z => ⟨upd_ne fun z' => R.row.off hp a t ns z z'.symm, R.g0 z⟩)
      refine f _ _ _ _ (R2.give1 (L := [p]) ⟨p, rfl, rfl, upd_same, rfl⟩ (fun q hq => ?_) (by rw [R2.len.1, hn]; exact hl) hr)
      rw [List.mem_singleton] at hq
      subst hq
      exact ⟨⟨_, upd_same, rfl⟩, hG, hop, none_of R.ext.m hp⟩
    · cases h
  | .unp tg md m, S, X, st, C, h => by
    unfold chkS at h
    split at h
    · rename_i ts kt pt e pos
      simp only [Bool.and_eq_true] at h
      obtain ⟨⟨⟨h1, h2⟩, h3⟩, h4⟩ := h
      have he := (sE Γ m S X e C.toCxOk h3).1
      have hg := sG tg S X _ C.toCxOk h1
      have hw : swappedStores [.Tuple ts kt pt] e X.env = pure none := by
        cases q : isTupE e with
        | false => exact sst_no q _
        | true =>
          rw [q] at h2
          cases e with
          | Tuple vs k2 p2 =>
            simp only [Bool.not_true, Bool.false_or, Bool.and_eq_true, decide_eq_true_eq] at h2
            exact sw_eq (by rw [C.sc]; exact h2.1) (by rw [C.sc]; exact h2.2)
          | _ => cases q
      have := C.K; subst this
      refine k_unp he hg (sw_tup _ _) hw rfl fun i hi => ?_
      rw [hi] at h4
      exact of_decide_eq_true h4
    · cases h
  | .par ps, S, X, st, C, h => by
    unfold chkS at h
    split at h
    · rename_i ts kt pt es k2 p2 pos
      simp only [Bool.and_eq_true, decide_eq_true_eq, Bool.or_eq_true, List.all_eq_true] at h
      obtain ⟨⟨⟨⟨h1, h3⟩, h4⟩, h5⟩, h6⟩ := h
      obtain ⟨ha, l1, l2⟩ := sPs Γ C.toCxOk ps ts es h5
      have hw : ∀ r, swP S.sc ts es = some r → swappedStores [.Tuple ts kt pt] (.Tuple es k2 p2) X.env = pure r := fun r hr => sw_eq (by rw [C.sc]; exact h1) (by rw [C.sc]; exact hr)
      have hnd : X.N.Nodup := by rw [C.N]; exact C.nd
      have tg := fun i x (q : tgB S i x = true) => tg_of C.toCxOk q
      have hsc := C.sc
      have hK := C.K; subst hK
      match ps, ts, es, l1, l2, h3, h4, h5, ha, hw with
      | [p1, p2'], [t1, t2], [e1, e2], _, _, _, h4, h5, ha, hw =>
        unfold chkPs at h5
        split at h5 <;> try (cases h5; done)
        rename_i x px ts' e' es' q1 q2
        cases q1; cases q2
        simp only [Bool.and_eq_true] at h5
        obtain ⟨⟨⟨g1, g4⟩, g5⟩, g6⟩ := h5
        unfold chkPs at g6
        split at g6 <;> try (cases g6; done)
        rename_i y py ts' e' es' q1 q2
        cases q1; cases q2
        simp only [Bool.and_eq_true] at g6
        obtain ⟨⟨⟨k1, k4⟩, k5⟩, k6⟩ := g6
        obtain ⟨_, u1, u2, u3, u4, u5⟩ := tg _ _ g1
        obtain ⟨_, v1, v2, v3, v4, v5⟩ := tg _ _ k1
        rcases h6 with ⟨h6, h7⟩ | h6
        · exact k_par2 C.calm hnd u1 v1 (nodup2 h4) (by rw [hsc]; exact h7 _ (by simp [namesOf])) (by rw [hsc]; exact h7 _ (by simp [namesOf])) ha (hw _ h6) u5 v5 u4 v4
        · exact k_parT2 C.calm hnd u1 v1 u2 v2 u3 v3 ha (hw _ h6) u5 v5 u4 v4
      | [p1, p2', p3], [t1, t2, t3], [e1, e2, e3], _, _, _, h4, h5, ha, hw =>
        unfold chkPs at h5
        split at h5 <;> try (cases h5; done)
        rename_i x px ts' e' es' q1 q2
        cases q1; cases q2
        simp only [Bool.and_eq_true] at h5
        obtain ⟨⟨⟨g1, g4⟩, g5⟩, g6⟩ := h5
        unfold chkPs at g6
        split at g6 <;> try (cases g6; done)
        rename_i y py ts' e' es' q1 q2
        cases q1; cases q2
        simp only [Bool.and_eq_true] at g6
        obtain ⟨⟨⟨k1, k4⟩, k5⟩, k6⟩ := g6
        unfold chkPs at k6
        split at k6 <;> try (cases k6; done)
        rename_i z pz ts' e' es' q1 q2
        cases q1; cases q2
        simp only [Bool.and_eq_true] at k6
        obtain ⟨⟨⟨n1, n4⟩, n5⟩, n6⟩ := k6
        obtain ⟨_, u1, u2, u3, u4, u5⟩ := tg _ _ g1
        obtain ⟨_, v1, v2, v3, v4, v5⟩ := tg _ _ k1
        obtain ⟨_, w1, w2, w3, w4, w5⟩ := tg _ _ n1
        simp only [List.map_cons, List.map_nil, List.nodup_cons, List.mem_cons, List.mem_singleton, not_or, List.not_mem_nil, not_false_eq_true, List.nodup_nil, and_true] at h4
        rcases h6 with ⟨h6, h7⟩ | h6
        · exact k_par3 C.calm hnd u1 v1 w1 h4.1.1 h4.1.2 h4.2 (by rw [hsc]; exact h7 _ (by simp [namesOf])) (by rw [hsc]; exact h7 _ (by simp [namesOf])) (by rw [hsc]; exact h7 _ (by simp [namesOf])) ha (hw _ h6) u5 v5 w5 u4 v4 w4
        · exact k_parT3 C.calm hnd u1 v1 w1 u2 v2 w2 u3 v3 w3 ha (hw _ h6) u5 v5 w5 u4 v4 w4
    · cases h
  | .aug i op m, S, X, st, C, h => by
    unfold chkS at h
    split at h
    · simp only [Bool.and_eq_true, decide_eq_true_eq] at h
      obtain ⟨⟨rfl, h2⟩, h3⟩ := h
      obtain ⟨hN, hi, hx, hf, hr, hl⟩ := tg_of C.toCxOk h2
      have he := (sE Γ m S X _ C.toCxOk h3).1
      have := C.K; subst this
      exact k_aug hN hi hx he hf hr
    · cases h
  | .app i md m, S, X, st, C, h => by
    unfold chkS at h
    split at h
    · simp only [Bool.and_eq_true, decide_eq_true_eq] at h
      obtain ⟨⟨⟨⟨rfl, h2⟩, h3⟩, h4⟩, h5⟩ := h
      obtain ⟨hi, hv, hd, hcd⟩ := nm_of C.toCxOk h2
      have he := (sE Γ m S X _ C.toCxOk h5).1
      have := C.K; subst this
      exact k_app hi hv hd hcd he h4 h3
    · cases h
  | .put1 i md m a, S, X, st, C, h => by
    unfold chkS at h
    split at h
    · simp only [Bool.and_eq_true, Bool.not_eq_true'] at h
      obtain ⟨⟨⟨⟨h1, h2⟩, h3⟩, h4⟩, h5⟩ := h
      obtain ⟨hi, hv, hd, hcd⟩ := nm_of C.toCxOk h1
      have he := (sE Γ m S X _ C.toCxOk h4).1
      have ha := (sE Γ a S X _ C.toCxOk h5).1
      have := C.K; subst this
      exact k_put1 hi hv hd hcd he ha (asg_sub h3) (sw_sole h2 _ _)
    · cases h
  | .put2 i m a b, S, X, st, C, h => by
    unfold chkS at h
    split at h
    · simp only [Bool.and_eq_true, Bool.not_eq_true'] at h
      obtain ⟨⟨⟨⟨⟨⟨h1, h2⟩, h3⟩, h4⟩, h5⟩, h6⟩, h7⟩ := h
      obtain ⟨hi, hv, hd, hcd⟩ := nm_of C.toCxOk h1
      have he := (sE Γ m S X _ C.toCxOk h5).1
      have ha := (sE Γ a S X _ C.toCxOk h6).1
      have hb := (sE Γ b S X _ C.toCxOk h7).1
      have := C.K; subst this
      exact k_put2 hi hv hd hcd he ha hb h3 (asg_sub h4) (sw_sole h2 _ _)
    · cases h
  | .putD i m a, S, X, st, C, h => by
    unfold chkS at h
    split at h
    · simp only [Bool.and_eq_true, Bool.not_eq_true'] at h
      obtain ⟨⟨⟨⟨h1, h2⟩, h3⟩, h4⟩, h5⟩ := h
      obtain ⟨hi, hv, hd, hcd⟩ := nm_of C.toCxOk h1
      have he := (sE Γ m S X _ C.toCxOk h4).1
      have ha := (sE Γ a S X _ C.toCxOk h5).1
      have hu := C.toCxOk.hu
      have := C.K; subst this
      exact k_putD (by omega) hi hv hd hcd he ha (sw_no h2 _ _ _)
    · cases h
  | .ext i md m, S, X, st, C, h => by
    unfold chkS at h
    split at h
    · simp only [Bool.and_eq_true, decide_eq_true_eq] at h
      obtain ⟨⟨⟨⟨rfl, h2⟩, h3⟩, h4⟩, h5⟩ := h
      obtain ⟨hi, hv, hd, hcd⟩ := nm_of C.toCxOk h2
      have he := (sE Γ m S X _ C.toCxOk h5).1
      have := C.K; subst this
      exact k_ext hi hv hd hcd he h4 h3
    · cases h
  | .parS ts ms, S, X, st, C, h => by
    unfold chkS at h
    split at h
    · rename_i tes kt pt es k2 p2 pos
      simp only [Bool.and_eq_true, decide_eq_true_eq] at h
      obtain ⟨⟨⟨⟨⟨h1, h2⟩, h3⟩, h4⟩, h5⟩, h6⟩ := h
      have ha := (sEs Γ ms S X _ C.toCxOk h6).1
      have hg := sTxs Γ C.toCxOk ts tes h5
      have hw : swappedStores [.Tuple tes kt pt] (.Tuple es k2 p2) X.env = pure none := sw_eq (by rw [C.sc]; exact h1) (by rw [C.sc]; exact h2)
      have := C.K; subst this
      exact k_parS C.calm ha hg.1 hw h3 (by rw [hg.2.1]; exact h4) hg.2.2
    · cases h
  | .rowSet k m, S, X, st, C, h => by
    unfold chkS at h
    split at h
    · simp only [Bool.and_eq_true, Bool.not_eq_true', decide_eq_true_eq] at h
      obtain ⟨⟨⟨h1, rfl⟩, h3⟩, h4⟩ := h
      have he := (sE Γ m S X _ C.toCxOk h4).1
      have hK := C.K; subst hK
      cases q : S.ir with
      | none => rw [q] at h1; cases h1
      | some i =>
        rw [q] at h1 he
        obtain ⟨hi, hv, hd, hcd⟩ := nm_of C.toCxOk h1
        exact k_rowSet hi hv hd hcd he (sw_sole h3 _ _)
    · cases h
  | .expr md m, S, X, st, C, h => by
    unfold chkS at h
    split at h
    · simp only [Bool.and_eq_true, Bool.not_eq_true'] at h
      have he := (sE Γ m S X _ C.toCxOk h.2).1
      have := C.K; subst this
      exact k_expr he (sw_no h.1 _ _ _)
    · cases h
  | .ifS c a b, S, X, st, C, h => by
    unfold chkS at h
    split at h
    · simp only [Bool.and_eq_true] at h
      obtain ⟨⟨⟨h1, h2⟩, h3⟩, h4⟩ := h
      have hc := (sE Γ c S X _ C.toCxOk h2).2.1 h1
      have ha := sSs a S X _ C h3
      have hb := sSs b S X _ C h4
      have := C.K; subst this
      exact k_if hc ha hb
    · cases h
  | .forS tg ik md ms body, S, X, st, C, h => by
    unfold chkS at h
    split at h
    · simp only [Bool.and_eq_true] at h
      obtain ⟨⟨⟨⟨h1, h2⟩, h3⟩, h4⟩, h5⟩ := h
      have hi := sI Γ ik ms S X _ _ C.toCxOk (fun l hl => sEs Γ ms S X l C.toCxOk hl) h2
      have hg := sG tg S X _ C.toCxOk h3
      have hb := sSs body S X _ C h5
      have := C.K; subst this
      refine k_for C.pass C.calm hi hg hb (set_of h1 X.env) fun i hi => ?_
      rw [hi] at h4
      exact of_decide_eq_true h4
    · cases h
  | .whileS fu c body, S, X, st, C, h => by
    unfold chkS at h
    split at h
    · simp only [Bool.and_eq_true] at h
      obtain ⟨⟨h1, h2⟩, h3⟩ := h
      have hc := (sE Γ c S X _ C.toCxOk h2).2.1 h1
      have hb := sSs body S X _ C h3
      have := C.K; subst this
      exact k_while C.pass hc hb
    · cases h
  | .ret m, S, X, st, C, h => by
    unfold chkS at h
    split at h
    · have he := (sE Γ m S X _ C.toCxOk h).1
      have := C.K; subst this
      exact k_ret he
    · cases h
  | .retN, S, X, st, C, h => by
    unfold chkS at h
    split at h
    · have := C.K; subst this
      exact k_retN
    · cases h
  | .brk, S, X, st, C, h => by
    unfold chkS at h
    split at h
    · have := C.K; subst this
      exact k_brk
    · cases h
  | .cont, S, X, st, C, h => by
    unfold chkS at h
    split at h
    · have := C.K; subst this
      exact k_cont
    · cases h
theorem sSs : ∀ (m : List Sx) (S : Cs) (X : Cx) (st : List Stmt), CxS P w K mg base k S X → chkSs T m S st = true → PSs X st (TSs F K S.ir S.N.length m)
  | [], S, X, st, C, h => by
    unfold chkSs at h
    rw [List.isEmpty_iff] at h
    subst h
    have := C.K; subst this
    exact k_nil
  | m :: ms, S, X, st, C, h => by
    unfold chkSs at h
    split at h
    · rw [Bool.and_eq_true] at h
      have h1 := sS m S X _ C h.1
      have h2 := sSs ms S X _ C h.2
      have := C.K; subst this
      exact k_cons h1 h2
    · cases h
end
end
end Lt

set_option Elab.async false
set_option linter.all false
set_option maxRecDepth 100000
set_option maxHeartbeats 8000000
/-! LtQ: a table of defs, the law's end. -/
namespace Lt
open PySem PySem.Spec PyProof.Rows L2
structure Fn where
  d : He.DefD
  g : Str
  ps : List Str
  rw : Bool
  N : List Str
  body : List Sx
def Fn.nargs (f : Fn) : Nat := f.ps.length - (if f.rw then 1 else 0)
def Fn.cs (f : Fn) : Cs := { N := f.N, sc := f.d.scope, fn := fun _ => true, ir := if f.rw then some 0 else none }
def Fn.s0 (f : Fn) (ds : List D) : Sls := (if f.rw then [.un] else []) ++ (ds.map Sl.fr ++ List.replicate (f.N.length - f.ps.length) .un)
def findF (fns : List Fn) (x : Str) (rw : Bool) : Option Fn := fns.find? fun f => decide (f.g = x) && f.rw == rw
def resD : Res → Option (D × Option W)
  | .rt d w => some (d, w)
  | .nx _ w => some (.non, w)
  | _ => none
def run1 (F : Orc) (f : Fn) (ds : List D) (w : Option W) : Option (D × Option W) := (rss F f.body (f.s0 ds) w).bind resD
def orc (fns : List Fn) : Nat → Orc
  | 0 => fun _ _ _ _ => none
  | k + 1 => fun x rw ds w => (findF fns x rw).bind fun f => if ds.length = f.nargs then run1 (orc fns k) f ds w else none
def scB (N ps : List Str) (sc : Scope) : Bool := decide (sc.kind = .function) && !sc.isCoroutine && !sc.isGenerator && decide N.Nodup && decide (N.take ps.length = ps) && ps.all (fun x => decide (sc.names.lookup x = some .local) || decide (sc.names.lookup x = some .cell)) && sc.names.all fun y => decide (y.2 ≠ .free)
theorem scB_ok {N ps : List Str} {sc : Scope} (h : scB N ps sc = true) : FnScope N ps sc := by
  unfold scB at h
  simp only [Bool.and_eq_true, decide_eq_true_eq, Bool.not_eq_true', List.all_eq_true, Bool.or_eq_true] at h
  obtain ⟨⟨⟨⟨⟨⟨h1, h2⟩, h3⟩, h4⟩, h5⟩, h6⟩, h7⟩ := h
  exact ⟨h1, h2, h3, h4, h5, h6, h7⟩
def Fn.ok (T : Tbl) (f : Fn) : Bool := chkSs T f.body f.cs f.d.body && scB f.N f.ps f.d.scope && f.d.dfl.isEmpty && f.d.kwd.isEmpty && (!f.rw || !f.ps.isEmpty)
abbrev FnD (K : PySem.W.Frag) (d : He.DefD) (fd : FuncData) : Prop := FunD K d.name d.qual d.params d.body d.scope (d.dvs K) (d.kws K) (He.fAd K d.at_) fd
section
variable {P : Program} {w : World} {K : PySem.W.Frag} {mg : Str → Option Value} {base : Heap} {k : Nat} {F : Orc} {T : Tbl}
theorem slots_ok {G H : Hp} {own : Own} {i m m' : Nat} : ∀ {us : List V} {ds : List D} {j : Nat} {sl : Sl}, Reps G us ds → (ds.map Sl.fr ++ List.replicate m .un)[j]? = some sl → SlOk G H own i ((us.map some ++ List.replicate m' none)[j]?) sl := by
  intro us ds j sl r h
  by_cases hj : j < ds.length
  · rw [List.getElem?_append_left (by simpa using hj), List.getElem?_map] at h
    obtain ⟨d, hd, rfl⟩ := Option.map_eq_some_iff.mp h
    obtain ⟨v, hv, hr⟩ := r.get hd
    exact ⟨v, by rw [List.getElem?_append_left (by rw [List.length_map, r.length]; exact hj), List.getElem?_map, hv]; rfl, hr⟩
  · rw [List.getElem?_append_right (by simpa using hj)] at h
    have : sl = .un := by
      rw [List.getElem?_replicate] at h
      split at h
      · cases h; rfl
      · cases h
    subst this
    exact True.intro
theorem cxS {f : Fn} {qual : Str} {a : Addr} {cd : Value} {A : Around} {outer : List PySem.Env} {s : Shared} {H : Hp} {E : XK} (hr : Room k (A.deeper (envOfC qual f.d.scope s.heap.objs.size a cd))) (hnd : f.N.Nodup) (ir : Option Nat) :
    CxS P w K mg base k { N := f.N, sc := f.d.scope, fn := fun _ => true, ir := ir } (cxOf CX0 P w K mg base f.N qual f.d.scope a cd A outer s H E) :=
  ⟨⟨rfl, rfl, rfl, rfl, rfl, rfl, hr, rfl, hnd, rfl, rfl⟩, passes_of rfl⟩
/-- a def keeps its promise one call deeper -/
theorem fn_step (Γ : Gam P w K mg base k F T) {f : Fn} {fd : FuncData} (hf : f.ok T = true) (hd : FnD K f.d fd) {F' : Orc} (hF : ∀ ds w d w', ds.length = f.nargs → F' f.g f.rw ds w = some (d, w') → run1 F f ds w = some (d, w')) :
    FnOk P w K mg base CX0 (k + 1) (He.fAd K f.d.at_) fd f.ps (spF F' K f.g f.rw f.nargs) := by
  unfold Fn.ok at hf
  simp only [Bool.and_eq_true, List.isEmpty_iff] at hf
  obtain ⟨⟨⟨⟨h1, h2⟩, h3⟩, h4⟩, h5⟩ := hf
  have S := scB_ok h2
  have len : ∀ vs H Q E, spF F' K f.g f.rw f.nargs vs H Q E → vs.length = f.ps.length := by
    rintro vs H Q E ⟨G, r, us, ds, w0, d, w', rfl, hl, hrw, _⟩
    unfold Fn.nargs at hl
    cases q : f.rw with
    | false =>
      rw [q] at hl
      simpa [preR] using hl
    | true =>
      rw [q] at hl hrw h5
      cases r with
      | none => cases hrw
      | some y =>
        obtain ⟨a, t, ns⟩ := y
        have : f.ps ≠ [] := by simpa using h5
        have := List.length_pos_iff.mpr this
        simp only [preR, if_true] at hl ⊢
        simp only [List.length_append, List.length_cons, List.length_nil]
        omega
  refine FunD.ok hd S len fun cdv A outer s H vs Q E hr hsp => ⟨_, sSs Γ f.body f.cs _ f.d.body (cxS hr S.nd _) h1, ?_⟩
  have hl0 := len _ _ _ _ hsp
  obtain ⟨G, r, us, ds, w0, d, w', rfl, hl, hrw, sG, row, rs, e, q⟩ := hsp
  have hlen : us.length = ds.length := rs.length
  have e2 := hF ds w0 d w' (by rw [← hlen, hl]) e
  unfold run1 at e2
  obtain ⟨res, e3, e4⟩ := Option.bind_eq_some_iff.mp e2
  have hpN : f.ps.length ≤ f.N.length := by have := congrArg List.length S.pre; rw [List.length_take] at this; omega
  refine ⟨⟨f.N.length, H, G, r⟩, f.s0 ds, w0, G, fun _ => none, res, rfl, ⟨.refl sG, row, fun i sl hi => ?_, ⟨w0, row⟩, fun a t ns z => ?_, ⟨?_, ?_⟩, (fun p i z => nomatch z)⟩, e3, ?_⟩
  · unfold Fn.s0 at hi
    unfold L2.start
    cases q : f.rw with
    | false =>
      rw [q] at hi
      simp only [preR, List.nil_append, Bool.false_eq_true, if_false] at hi ⊢
      exact slots_ok rs hi
    | true =>
      rw [q] at hi hrw
      cases r with
      | none => cases hrw
      | some y =>
        obtain ⟨a, t, ns⟩ := y
        cases i with
        | zero =>
          have : sl = .un := by simpa using hi.symm
          subst this
          exact True.intro
        | succ i =>
          simp only [if_true, List.cons_append, List.nil_append, List.getElem?_cons_succ] at hi
          have := slots_ok (m' := f.N.length - (us.length + 1)) (H := H) (own := fun _ => none) (i := i + 1) rs hi
          simpa [preR, L2.start] using this
  · have hr' : f.rw = true := by rw [hrw]; have z : r = some (a, t, ns) := z; rw [z]; rfl
    have z : r = some (a, t, ns) := z
    subst z
    refine ⟨0, by show (if f.rw then some 0 else none) = some 0; rw [hr']; rfl, ?_⟩
    rw [hr']
    rfl
  · unfold Fn.s0
    show _ = f.N.length
    rw [List.length_append, List.length_append, List.length_map, List.length_replicate, ← hlen]
    rw [List.length_append] at hl0
    cases q : f.rw with
    | false =>
      rw [q] at hl0
      simp [preR] at hl0 ⊢
      omega
    | true =>
      rw [q] at hl0 hrw
      cases r with
      | none => cases hrw
      | some y =>
        obtain ⟨a, t, ns⟩ := y
        simp [preR] at hl0 ⊢
        omega
  · unfold L2.start
    show f.N.length ≤ _
    rw [List.length_append, List.length_map, List.length_replicate]
    omega
  · cases res with
    | rt d1 w1 =>
      cases e4
      exact fun v H' G' x o r' => q v H' G' x o r'
    | nx s1 w1 =>
      cases e4
      exact fun σ' H' G' own' R => q .non H' G' R.ext R.row .non
    | bk s1 w1 => cases e4
    | ct s1 w1 => cases e4
/-- the program, as far as the law reaches it -/
structure Has (K : PySem.W.Frag) (mg : Str → Option Value) (T : Tbl) (fns : List Fn) : Prop where
  fr : ∀ x ∈ T.fr, mg x = none
  gl : ∀ q ∈ T.gl, ∃ t, mg q.1 = some (.int q.2 t)
  fs : ∀ q ∈ T.fs, ∃ f ∈ fns, f.g = q.1 ∧ f.rw = q.2.1 ∧ f.nargs = q.2.2
  gc : T.gc = true → mg "gcd" = some (.builtin "math.gcd")
  mg : ∀ f ∈ fns, mg f.g = some (.ref (He.fAd K f.d.at_))
  d : ∀ f ∈ fns, ∃ fd, FnD K f.d fd ∧ Binds K fd f.ps []
  ok : ∀ f ∈ fns, f.ok T = true
  fnd : ∀ f ∈ fns, findF fns f.g f.rw = some f
theorem all_ok {fns : List Fn} (h : Has K mg T fns) : ∀ k, Gam P w K mg base k (orc fns k) T
  | 0 => ⟨h.fr, h.gl, (fun q hq => by
    obtain ⟨f, hf, e1, e2, e3⟩ := h.fs q hq
    obtain ⟨fd, h1, h2⟩ := h.d f hf
    refine ⟨_, fd, f.ps, e1 ▸ h.mg f hf, h1.kp, h2, ⟨fun vs H Q E hs => ?_, fun A outer s H args us vs Q E _ _ _ _ hs => ?_⟩⟩
    · obtain ⟨G, r, us, ds, w0, d, w', _, _, _, _, _, _, e, _⟩ := hs
      cases e
    · obtain ⟨G, r, us, ds, w0, d, w', _, _, _, _, _, _, e, _⟩ := hs
      cases e), h.gc⟩
  | k + 1 => ⟨h.fr, h.gl, (fun q hq => by
    obtain ⟨f, hf, e1, e2, e3⟩ := h.fs q hq
    obtain ⟨fd, h1, h2⟩ := h.d f hf
    refine ⟨_, fd, f.ps, e1 ▸ h.mg f hf, h1.kp, h2, ?_⟩
    have := fn_step (all_ok h k) (h.ok f hf) h1 (F' := orc fns (k + 1)) fun ds w d w' hl e => by
      simp only [orc, h.fnd f hf, Option.bind_some, if_pos hl] at e
      exact e
    rw [e1, e2, e3] at this
    exact this), h.gc⟩
/-! ### the law -/
def spLaw (K : PySem.W.Frag) : Sp := fun vs H Q _ => ∃ (a : Addr) (ns : List Int), vs = [.ref a] ∧ ns.length ≤ 63 ∧ SqL K H a (ns.map V.int) ∧ ∀ H', Q (.bl true) H'
def headB (N : List Str) (sc : Scope) (seed : Int) : List Stmt → Option (List Stmt)
  | .Assign [.Name x px] (.List [.Name y _, .Constant (.int c1) _ _, .Constant (.int c2) _ _, .Constant (.int c3) _ _] _) _ :: r =>
    if decide (N[1]? = some x) && decide (N[0]? = some y) && decide (sc.names.lookup x = some .local ∨ sc.names.lookup x = some .cell) && okN y && decide (c1 = 0) && decide (c2 = seed) && decide (c3 = 0) then some r else none
  | _ => none
structure LawF where
  d : He.DefD
  p : Str
  N : List Str
  seed : Int
  body : List Sx
def LawF.ok (T : Tbl) (l : LawF) : Bool := scB l.N [l.p] l.d.scope && l.d.dfl.isEmpty && l.d.kwd.isEmpty && decide (1 < l.N.length) && (match headB l.N l.d.scope l.seed l.d.body with
  | some r => chkSs T l.body { N := l.N, sc := l.d.scope, fn := fun _ => true, ir := some 1 } r
  | none => false)
def LawF.true (fns : List Fn) (k : Nat) (l : LawF) : Prop := ∀ ns : List Int, ns.length ≤ 63 → ∃ w', rss (orc fns k) l.body (List.replicate l.N.length .un) (some ⟨ns, 0, l.seed, 0⟩) = some (.rt (.bl Bool.true) w')
theorem law_ok {fns : List Fn} (h : Has K mg T fns) {l : LawF} {fd : FuncData} (hl : l.ok T = Bool.true) (hd : FnD K l.d fd) (ht : l.true fns k) : FnOk P w K mg base CX0 (k + 1) (He.fAd K l.d.at_) fd [l.p] (spLaw K) := by
  unfold LawF.ok at hl
  simp only [Bool.and_eq_true, List.isEmpty_iff, decide_eq_true_eq] at hl
  obtain ⟨⟨⟨⟨h1, h2⟩, h3⟩, h4⟩, h5⟩ := hl
  have S := scB_ok h1
  have len : ∀ vs H Q E, spLaw K vs H Q E → vs.length = [l.p].length := by
    rintro vs H Q E ⟨a, ns, rfl, _⟩; rfl
  cases hb : headB l.N l.d.scope l.seed l.d.body with
  | none => rw [hb] at h5; cases h5
  | some rest =>
    rw [hb] at h5
    unfold headB at hb
    split at hb
    · rename_i x px y py c1 j1 q1 c2 j2 q2 c3 j3 q3 lp sp r hbody
      split at hb
      · rename_i cc
        simp only [Bool.and_eq_true, decide_eq_true_eq] at cc
        obtain ⟨⟨⟨⟨⟨⟨k1, k2⟩, k3⟩, k4⟩, rfl⟩, rfl⟩, rfl⟩ := cc
        cases hb
        refine FunD.ok hd S len fun cdv A outer s H vs Q E hr hsp => ?_
        rw [hbody]
        have C := cxS (P := P) (w := w) (K := K) (mg := mg) (base := base) (f := ⟨l.d, "", [l.p], false, l.N, []⟩) (outer := outer) (H := H) (E := E) hr S.nd (some 1)
        obtain ⟨k5, k6⟩ := okN_of k4
        have hy : Vis l.d.scope y := by
          have e : l.p = y := by
            have := S.pre
            have hN0 : l.N[0]? = some l.p := by
              cases hN : l.N with
              | nil => rw [hN] at h4; simp at h4
              | cons n0 r0 => rw [hN] at this; simp at this; rw [this]; rfl
            rw [hN0] at k2
            exact Option.some.inj k2
          rcases S.par l.p (by simp) with z | z
          · exact .inl (by rw [← e]; exact z)
          · exact .inr (.inl (by rw [← e]; exact z))
        refine ⟨_, pss_cons (ps_set (i := 1) S.nd k1 k3 (pe_lst (pa_cons (pe_var k2 hy k5 k6) (pa_cons pe_int (pa_cons pe_int (pa_cons pe_int pa_nil))))) rfl (.inl rfl)) (sSs (all_ok h k) l.body _ _ _ C h5), ?_⟩
        obtain ⟨a, ns, rfl, hns, hS, hQ⟩ := hsp
        obtain ⟨w', e⟩ := ht ns hns
        refine ⟨.ref a, rfl, by show 4 ≤ sizeLine; decide, fun p hp => ?_⟩
        have sm : Same H (upd H p (.lst [.ref a, .int 0, .int l.seed, .int 0])) := same_new hp
        have hS' : SqL K (upd H p (.lst [.ref a, .int 0, .int l.seed, .int 0])) a (ns.map V.int) := by
          rcases hS with (z | ⟨o, z⟩) | z
          · exact .inl (.inl (sm _ _ z))
          · exact .inl (.inr ⟨o, sm _ _ z⟩)
          · exact .inr z
        have hrow : RowOk K (some (p, a, ns)) (upd H p (.lst [.ref a, .int 0, .int l.seed, .int 0])) (fun _ => none) (some ⟨ns, 0, l.seed, 0⟩) := ⟨upd_same, rfl, rfl, hS'⟩
        refine ⟨⟨l.N.length, _, fun _ => none, some (p, a, ns)⟩, _, _, fun _ => none, fun _ => none, _, rfl, ⟨.refl (fun _ _ e => nomatch e), hrow, fun i sl hi => ?_, ⟨_, hrow⟩, fun a' t' ns' z => ?_, ⟨List.length_replicate .., ?_⟩, (fun p i z => nomatch z)⟩, e, ?_⟩
        · rw [List.getElem?_replicate] at hi
          split at hi
          · cases hi; exact True.intro
          · cases hi
        · cases z
          refine ⟨1, rfl, ?_⟩
          refine List.getElem?_set_self ?_
          unfold L2.start
          simp only [List.map_cons, List.map_nil, List.length_append, List.length_cons, List.length_nil, List.length_replicate]
          omega
        · show l.N.length ≤ _
          unfold L2.start
          simp only [List.length_set, List.map_cons, List.map_nil, List.length_append, List.length_cons, List.length_nil, List.length_replicate]
          omega
        · intro v H' G' x o r'
          cases r'
          exact hQ H'
      · cases hb
    · cases hb
end
end Lt

set_option Elab.async false
set_option linter.all false
set_option maxRecDepth 100000
set_option maxHeartbeats 4000000
/-! LtR: plain Lean about the interpreter: tools, and the defs that all laws share. -/
namespace Lt
open PySem PySem.Spec PyProof.Rows L2
/-! ### tools -/
theorem fz_fr (d : D) : Sl.fz (.fr d) = .fr d := rfl
theorem fz_un : Sl.fz .un = .un := rfl
theorem fz_l (d : List D) : Sl.fz (.l d) = .fr (.lst d) := rfl
theorem fz_ll (d : List (List D)) : Sl.fz (.ll d) = .fr (.lst (d.map D.lst)) := rfl
theorem fz_dt (d : List (List Key × D)) : Sl.fz (.dt d) = .fr (.dT d) := rfl
theorem vw_fr (d : D) : Sl.vw (.fr d) = some d := rfl
theorem vw_un : Sl.vw .un = none := rfl
theorem vw_l (d : List D) : Sl.vw (.l d) = none := rfl
theorem vw_ll (d : List (List D)) : Sl.vw (.ll d) = none := rfl
theorem vw_dt (d : List (List Key × D)) : Sl.vw (.dt d) = none := rfl
theorem opD_add (i j : Int) : opD .Add (.int i) (.int j) = some (.int (i + j)) := rfl
theorem opD_sub (i j : Int) : opD .Sub (.int i) (.int j) = some (.int (i - j)) := rfl
theorem opD_mul (i j : Int) (h : (big i || big j) = true) : opD .Mult (.int i) (.int j) = some (.int (i * j)) := if_pos h
theorem opD_mod (i j : Int) (h : j ≠ 0) : opD .Mod (.int i) (.int j) = some (.int (i.fmod j)) := if_pos (by simpa using h)
theorem opD_fdiv (i j : Int) (h : j ≠ 0) (h2 : j.natAbs < 1073741824) : opD .FloorDiv (.int i) (.int j) = some (.int (i.fdiv j)) := if_pos (by simp [h, h2])
theorem opD_pow : opD .Pow (.int 10) (.int 18) = some (.int 1000000000000000000) := by rfl
theorem cmpD_lt (i j : Int) : cmpD .Lt (.int i) (.int j) = some (decide (i < j)) := rfl
theorem cmpD_le (i j : Int) : cmpD .LtE (.int i) (.int j) = some (decide (i ≤ j)) := rfl
theorem cmpD_gt (i j : Int) : cmpD .Gt (.int i) (.int j) = some (decide (j < i)) := rfl
theorem cmpD_ge (i j : Int) : cmpD .GtE (.int i) (.int j) = some (decide (j ≤ i)) := rfl
theorem bltD_int (i : Int) : bltD .int [.int i] = some (.int i) := rfl
theorem bltD_len (xs : List D) : bltD .len [.lst xs] = some (.int xs.length) := rfl
theorem bltD_lenT (xs : List D) : bltD .len [.tup xs] = some (.int xs.length) := rfl
theorem bltD_min2 (i j : Int) : bltD .min2 [.int i, .int j] = some (.int (if j < i then j else i)) := rfl
theorem bltD_max2 (i j : Int) : bltD .max2 [.int i, .int j] = some (.int (if j > i then j else i)) := rfl
theorem bltD_tuple (xs : List D) : bltD .tuple [.lst xs] = some (.tup xs) := rfl
theorem bltD_tupleT (xs : List D) : bltD .tuple [.tup xs] = some (.tup xs) := rfl
/-- the draw list's word -/
def bTaken : List Sx := [.ifS (.cmp .Gt (.rowGet 3) (.int 0)) [.set 3 (.fz []) (.bin .Mod (.blt .int [.rowGet 3]) (.var 1)), .rowSet 3 (.bin .FloorDiv (.rowGet 3) (.var 1)), .ret (.var 3)] [], .rowSet 1 (.bin .Add (.rowGet 1) (.int 1)), .ifS (.cmp .Gt (.rowGet 1) (.rowLen)) [.rowSet 2 (.bin .Mod (.blt .int [.bin .Add (.bin .Mult (.rowGet 2) (.int 48271)) (.int 11)]) (.int 2147483647)), .ret (.bin .Mod (.blt .int [.bin .FloorDiv (.rowGet 2) (.int 7)]) (.var 1))] [], .set 2 (.fz []) (.rowCell (.bin .Sub (.rowGet 1) (.int 1))), .rowSet 2 (.bin .Mod (.blt .int [.bin .Add (.bin .Add (.bin .Mult (.rowGet 2) (.int 48271)) (.var 2)) (.int 11)]) (.int 2147483647)), .ifS (.cmp .GtE (.var 2) (.bin .Pow (.int 10) (.int 18))) [.rowSet 3 (.bin .FloorDiv (.var 2) (.var 1))] [], .ret (.bin .Mod (.blt .int [.var 2]) (.var 1))]
def drawW (w : W) (m : Int) : Int × W :=
  if 0 < w.c then (w.c.fmod m, { w with c := w.c.fdiv m })
  else if (w.ns.length : Int) < w.a + 1 then
    ((((w.b * 48271 + 11).fmod 2147483647).fdiv 7).fmod m, { w with a := w.a + 1, b := (w.b * 48271 + 11).fmod 2147483647 })
  else
    ((w.ns.getD w.a.toNat 0).fmod m, { w with a := w.a + 1, b := (w.b * 48271 + w.ns.getD w.a.toNat 0 + 11).fmod 2147483647, c := if (10 : Int) ^ 18 ≤ w.ns.getD w.a.toNat 0 then (w.ns.getD w.a.toNat 0).fdiv m else w.c })
theorem drawW_ns (w : W) (m : Int) : (drawW w m).2.ns = w.ns := by
  unfold drawW
  split
  · rfl
  · split <;> rfl
theorem drawW_a (w : W) (m : Int) (h : 0 ≤ w.a) : 0 ≤ (drawW w m).2.a := by
  unfold drawW
  split
  · exact h
  · split <;> (show 0 ≤ w.a + 1; omega)
theorem drawW_lo (w : W) (m : Int) (h : 0 < m) : 0 ≤ (drawW w m).1 := by
  unfold drawW
  split
  · exact Int.fmod_nonneg_of_pos _ h
  · split <;> exact Int.fmod_nonneg_of_pos _ h
theorem drawW_hi (w : W) (m : Int) (h : 0 < m) : (drawW w m).1 < m := by
  unfold drawW
  split
  · exact Int.fmod_lt_of_pos _ h
  · split <;> exact Int.fmod_lt_of_pos _ h
theorem big48 (i : Int) : (big i || big 48271) = true := by
  rw [show big 48271 = true by decide, Bool.or_true]
theorem taken_run (F : Orc) (w : W) (m : Int) (h1 : 0 < m) (h2 : m < 1073741824) (ha : 0 ≤ w.a) :
    (rss F bTaken [.un, .fr (.int m), .un, .un] (some w)).bind resD = some (.int (drawW w m).1, some (drawW w m).2) := by
  have hm : m ≠ 0 := by omega
  have hn : m.natAbs < 1073741824 := by omega
  have h7 : (7 : Int) ≠ 0 := by decide
  have h8 : (7 : Int).natAbs < 1073741824 := by decide
  have h9 : (2147483647 : Int) ≠ 0 := by decide
  unfold bTaken drawW
  by_cases c : 0 < w.c
  · simp only [rss, rs, evM, evsM, evPs, evP, setPs, ev, evs, evo, evc, vwS, fzA, frz, fzG, fz_fr, fz_un, fz_l, fz_ll, fz_dt, vw_fr, vw_un, vw_l, vw_ll, vw_dt, Sl.asL, Sl.asLL, Sl.asT, List.map_cons, List.map_nil, Option.bind_some, Option.map_some, Option.bind_none, Option.map_none, List.getElem?_cons_zero, List.getElem?_cons_succ, List.getElem?_nil, List.set_cons_zero, List.set_cons_succ, List.set_nil, isSc, asI, asLs, asTu, isBl, rowAt, setRow, resD, optI, bindS, bindSs, bindT, bindTs, wipeE, List.length_cons, List.length_nil, List.contains_nil, List.contains_cons, Bool.or_false, Bool.false_or, Bool.or_true, Bool.true_or, Bool.and_true, Bool.true_and, Bool.and_false, Bool.false_and, Bool.not_true, Bool.not_false, Bool.false_eq_true, if_true, if_false, ↓reduceIte, beq_iff_eq, Nat.reduceBEq, Nat.reduceEqDiff, List.all_cons, List.all_nil, opD_add, opD_sub, opD_mul, opD_mod, opD_fdiv, opD_pow, cmpD_lt, cmpD_le, cmpD_gt, cmpD_ge, bltD_int, bltD_len, bltD_lenT, bltD_min2, bltD_max2, bltD_tuple, bltD_tupleT, Nat.zero_lt_succ, Nat.reduceLT, Nat.reduceAdd, Nat.lt_add_one, decide_true, decide_false, ne_eq, not_true_eq_false, not_false_eq_true, reduceCtorEq, Int.reduceNeg, c, hm, hn]
  · by_cases c2 : (w.ns.length : Int) < w.a + 1
    · simp only [rss, rs, evM, evsM, evPs, evP, setPs, ev, evs, evo, evc, vwS, fzA, frz, fzG, fz_fr, fz_un, fz_l, fz_ll, fz_dt, vw_fr, vw_un, vw_l, vw_ll, vw_dt, Sl.asL, Sl.asLL, Sl.asT, List.map_cons, List.map_nil, Option.bind_some, Option.map_some, Option.bind_none, Option.map_none, List.getElem?_cons_zero, List.getElem?_cons_succ, List.getElem?_nil, List.set_cons_zero, List.set_cons_succ, List.set_nil, isSc, asI, asLs, asTu, isBl, rowAt, setRow, resD, optI, bindS, bindSs, bindT, bindTs, wipeE, List.length_cons, List.length_nil, List.contains_nil, List.contains_cons, Bool.or_false, Bool.false_or, Bool.or_true, Bool.true_or, Bool.and_true, Bool.true_and, Bool.and_false, Bool.false_and, Bool.not_true, Bool.not_false, Bool.false_eq_true, if_true, if_false, ↓reduceIte, beq_iff_eq, Nat.reduceBEq, Nat.reduceEqDiff, List.all_cons, List.all_nil, opD_add, opD_sub, opD_mul, opD_mod, opD_fdiv, opD_pow, cmpD_lt, cmpD_le, cmpD_gt, cmpD_ge, bltD_int, bltD_len, bltD_lenT, bltD_min2, bltD_max2, bltD_tuple, bltD_tupleT, Nat.zero_lt_succ, Nat.reduceLT, Nat.reduceAdd, Nat.lt_add_one, decide_true, decide_false, ne_eq, not_true_eq_false, not_false_eq_true, reduceCtorEq, Int.reduceNeg, c, c2, hm, hn, h7, h8, h9, big48]
    · have hi : ixN w.ns.length w.a = some w.a.toNat := by
        unfold ixN
        rw [if_pos ha, if_pos (by omega)]
      have hlt : w.a.toNat < w.ns.length := by omega
      have hc : cellAt { ns := w.ns, a := w.a + 1, b := w.b, c := w.c } (.int (w.a + 1 - 1)) = some (.int (w.ns.getD w.a.toNat 0)) := by
        show Option.map D.int (atI w.ns (w.a + 1 - 1)) = _
        unfold atI
        rw [show w.a + 1 - 1 = w.a by omega, hi]
        simp [List.getD_eq_getElem?_getD, List.getElem?_eq_getElem hlt]
      generalize w.ns.getD w.a.toNat 0 = cell at hc ⊢
      rw [show ((10 : Int) ^ 18) = 1000000000000000000 by decide]
      by_cases c3 : 1000000000000000000 ≤ cell
      · simp only [rss, rs, evM, evsM, evPs, evP, setPs, ev, evs, evo, evc, vwS, fzA, frz, fzG, fz_fr, fz_un, fz_l, fz_ll, fz_dt, vw_fr, vw_un, vw_l, vw_ll, vw_dt, Sl.asL, Sl.asLL, Sl.asT, List.map_cons, List.map_nil, Option.bind_some, Option.map_some, Option.bind_none, Option.map_none, List.getElem?_cons_zero, List.getElem?_cons_succ, List.getElem?_nil, List.set_cons_zero, List.set_cons_succ, List.set_nil, isSc, asI, asLs, asTu, isBl, rowAt, setRow, resD, optI, bindS, bindSs, bindT, bindTs, wipeE, List.length_cons, List.length_nil, List.contains_nil, List.contains_cons, Bool.or_false, Bool.false_or, Bool.or_true, Bool.true_or, Bool.and_true, Bool.true_and, Bool.and_false, Bool.false_and, Bool.not_true, Bool.not_false, Bool.false_eq_true, if_true, if_false, ↓reduceIte, beq_iff_eq, Nat.reduceBEq, Nat.reduceEqDiff, List.all_cons, List.all_nil, opD_add, opD_sub, opD_mul, opD_mod, opD_fdiv, opD_pow, cmpD_lt, cmpD_le, cmpD_gt, cmpD_ge, bltD_int, bltD_len, bltD_lenT, bltD_min2, bltD_max2, bltD_tuple, bltD_tupleT, Nat.zero_lt_succ, Nat.reduceLT, Nat.reduceAdd, Nat.lt_add_one, decide_true, decide_false, ne_eq, not_true_eq_false, not_false_eq_true, reduceCtorEq, Int.reduceNeg, c, c2, hm, hn, h7, h8, h9, big48, hc, c3]
      · simp only [rss, rs, evM, evsM, evPs, evP, setPs, ev, evs, evo, evc, vwS, fzA, frz, fzG, fz_fr, fz_un, fz_l, fz_ll, fz_dt, vw_fr, vw_un, vw_l, vw_ll, vw_dt, Sl.asL, Sl.asLL, Sl.asT, List.map_cons, List.map_nil, Option.bind_some, Option.map_some, Option.bind_none, Option.map_none, List.getElem?_cons_zero, List.getElem?_cons_succ, List.getElem?_nil, List.set_cons_zero, List.set_cons_succ, List.set_nil, isSc, asI, asLs, asTu, isBl, rowAt, setRow, resD, optI, bindS, bindSs, bindT, bindTs, wipeE, List.length_cons, List.length_nil, List.contains_nil, List.contains_cons, Bool.or_false, Bool.false_or, Bool.or_true, Bool.true_or, Bool.and_true, Bool.true_and, Bool.and_false, Bool.false_and, Bool.not_true, Bool.not_false, Bool.false_eq_true, if_true, if_false, ↓reduceIte, beq_iff_eq, Nat.reduceBEq, Nat.reduceEqDiff, List.all_cons, List.all_nil, opD_add, opD_sub, opD_mul, opD_mod, opD_fdiv, opD_pow, cmpD_lt, cmpD_le, cmpD_gt, cmpD_ge, bltD_int, bltD_len, bltD_lenT, bltD_min2, bltD_max2, bltD_tuple, bltD_tupleT, Nat.zero_lt_succ, Nat.reduceLT, Nat.reduceAdd, Nat.lt_add_one, decide_true, decide_false, ne_eq, not_true_eq_false, not_false_eq_true, reduceCtorEq, Int.reduceNeg, c, c2, hm, hn, h7, h8, h9, big48, hc, c3]
end Lt

set_option Elab.async false
set_option linter.all false
set_option maxRecDepth 100000
set_option maxHeartbeats 4000000
/-! LtS: plain Lean about the interpreter: small defs, draws. -/
namespace Lt
open PySem PySem.Spec PyProof.Rows L2
/-! ### checks -/
def bWhole : List Sx := [.ret (.and (.isi (.var 0) .int) (.not (.isi (.var 0) .bool)))]
theorem whole_run (F : Orc) (i : Int) : (rss F bWhole [.fr (.int i)] none).bind resD = some (.bl true, none) := by
  unfold bWhole
  simp only [rss, rs, evM, evsM, evPs, evP, setPs, ev, evs, evo, evc, vwS, fzA, frz, fzG, fz_fr, fz_un, fz_l, fz_ll, fz_dt, vw_fr, vw_un, vw_l, vw_ll, vw_dt, Sl.asL, Sl.asLL, Sl.asT, List.map_cons, List.map_nil, Option.bind_some, Option.map_some, Option.bind_none, Option.map_none, List.getElem?_cons_zero, List.getElem?_cons_succ, List.getElem?_nil, List.set_cons_zero, List.set_cons_succ, List.set_nil, isSc, asI, asLs, asTu, isBl, rowAt, setRow, resD, optI, bindS, bindSs, bindT, bindTs, wipeE, List.length_cons, List.length_nil, List.contains_nil, List.contains_cons, Bool.or_false, Bool.false_or, Bool.or_true, Bool.true_or, Bool.and_true, Bool.true_and, Bool.and_false, Bool.false_and, Bool.not_true, Bool.not_false, Bool.false_eq_true, if_true, if_false, ↓reduceIte, beq_iff_eq, Nat.reduceBEq, Nat.reduceEqDiff, List.all_cons, List.all_nil, opD_add, opD_sub, opD_mul, opD_mod, opD_fdiv, opD_pow, cmpD_lt, cmpD_le, cmpD_gt, cmpD_ge, bltD_int, bltD_len, bltD_lenT, bltD_min2, bltD_max2, bltD_tuple, bltD_tupleT, Nat.zero_lt_succ, Nat.reduceLT, Nat.reduceAdd, Nat.lt_add_one, decide_true, decide_false, ne_eq, not_true_eq_false, not_false_eq_true, reduceCtorEq, Int.reduceNeg, isiD]
/-- whole(i), for a number -/
def OkWhole (F : Orc) : Prop := ∀ i : Int, F "whole" false [.int i] none = some (.bl true, none)
def bWithin : List Sx := [.ret (.and (.call "whole" [.var 0]) (.chain .LtE .LtE (.var 1) (.var 0) (.var 2)))]
theorem within_run (F : Orc) (h : OkWhole F) (i a b : Int) : (rss F bWithin [.fr (.int i), .fr (.int a), .fr (.int b)] none).bind resD = some (.bl (decide (a ≤ i) && decide (i ≤ b)), none) := by
  unfold bWithin
  by_cases c : a ≤ i
  · simp only [rss, rs, evM, evsM, evPs, evP, setPs, ev, evs, evo, evc, vwS, fzA, frz, fzG, fz_fr, fz_un, fz_l, fz_ll, fz_dt, vw_fr, vw_un, vw_l, vw_ll, vw_dt, Sl.asL, Sl.asLL, Sl.asT, List.map_cons, List.map_nil, Option.bind_some, Option.map_some, Option.bind_none, Option.map_none, List.getElem?_cons_zero, List.getElem?_cons_succ, List.getElem?_nil, List.set_cons_zero, List.set_cons_succ, List.set_nil, isSc, asI, asLs, asTu, isBl, rowAt, setRow, resD, optI, bindS, bindSs, bindT, bindTs, wipeE, List.length_cons, List.length_nil, List.contains_nil, List.contains_cons, Bool.or_false, Bool.false_or, Bool.or_true, Bool.true_or, Bool.and_true, Bool.true_and, Bool.and_false, Bool.false_and, Bool.not_true, Bool.not_false, Bool.false_eq_true, if_true, if_false, ↓reduceIte, beq_iff_eq, Nat.reduceBEq, Nat.reduceEqDiff, List.all_cons, List.all_nil, opD_add, opD_sub, opD_mul, opD_mod, opD_fdiv, opD_pow, cmpD_lt, cmpD_le, cmpD_gt, cmpD_ge, bltD_int, bltD_len, bltD_lenT, bltD_min2, bltD_max2, bltD_tuple, bltD_tupleT, Nat.zero_lt_succ, Nat.reduceLT, Nat.reduceAdd, Nat.lt_add_one, decide_true, decide_false, ne_eq, not_true_eq_false, not_false_eq_true, reduceCtorEq, Int.reduceNeg, h i, c]
  · simp only [rss, rs, evM, evsM, evPs, evP, setPs, ev, evs, evo, evc, vwS, fzA, frz, fzG, fz_fr, fz_un, fz_l, fz_ll, fz_dt, vw_fr, vw_un, vw_l, vw_ll, vw_dt, Sl.asL, Sl.asLL, Sl.asT, List.map_cons, List.map_nil, Option.bind_some, Option.map_some, Option.bind_none, Option.map_none, List.getElem?_cons_zero, List.getElem?_cons_succ, List.getElem?_nil, List.set_cons_zero, List.set_cons_succ, List.set_nil, isSc, asI, asLs, asTu, isBl, rowAt, setRow, resD, optI, bindS, bindSs, bindT, bindTs, wipeE, List.length_cons, List.length_nil, List.contains_nil, List.contains_cons, Bool.or_false, Bool.false_or, Bool.or_true, Bool.true_or, Bool.and_true, Bool.true_and, Bool.and_false, Bool.false_and, Bool.not_true, Bool.not_false, Bool.false_eq_true, if_true, if_false, ↓reduceIte, beq_iff_eq, Nat.reduceBEq, Nat.reduceEqDiff, List.all_cons, List.all_nil, opD_add, opD_sub, opD_mul, opD_mod, opD_fdiv, opD_pow, cmpD_lt, cmpD_le, cmpD_gt, cmpD_ge, bltD_int, bltD_len, bltD_lenT, bltD_min2, bltD_max2, bltD_tuple, bltD_tupleT, Nat.zero_lt_succ, Nat.reduceLT, Nat.reduceAdd, Nat.lt_add_one, decide_true, decide_false, ne_eq, not_true_eq_false, not_false_eq_true, reduceCtorEq, Int.reduceNeg, h i, c]
def OkWithin (F : Orc) : Prop := ∀ i a b : Int, F "within" false [.int i, .int a, .int b] none = some (.bl (decide (a ≤ i) && decide (i ≤ b)), none)
def bTupleOf : List Sx := [.ret (.and (.isi (.var 0) .tuple) (.chain .LtE .LtE (.var 1) (.blt .len [.var 0]) (.var 2)))]
theorem tuple_of_run (F : Orc) (xs : List D) (a b : Int) : (rss F bTupleOf [.fr (.tup xs), .fr (.int a), .fr (.int b)] none).bind resD = some (.bl (decide (a ≤ (xs.length : Int)) && decide ((xs.length : Int) ≤ b)), none) := by
  unfold bTupleOf
  by_cases c : a ≤ (xs.length : Int)
  · simp only [rss, rs, evM, evsM, evPs, evP, setPs, ev, evs, evo, evc, vwS, fzA, frz, fzG, fz_fr, fz_un, fz_l, fz_ll, fz_dt, vw_fr, vw_un, vw_l, vw_ll, vw_dt, Sl.asL, Sl.asLL, Sl.asT, List.map_cons, List.map_nil, Option.bind_some, Option.map_some, Option.bind_none, Option.map_none, List.getElem?_cons_zero, List.getElem?_cons_succ, List.getElem?_nil, List.set_cons_zero, List.set_cons_succ, List.set_nil, isSc, asI, asLs, asTu, isBl, rowAt, setRow, resD, optI, bindS, bindSs, bindT, bindTs, wipeE, List.length_cons, List.length_nil, List.contains_nil, List.contains_cons, Bool.or_false, Bool.false_or, Bool.or_true, Bool.true_or, Bool.and_true, Bool.true_and, Bool.and_false, Bool.false_and, Bool.not_true, Bool.not_false, Bool.false_eq_true, if_true, if_false, ↓reduceIte, beq_iff_eq, Nat.reduceBEq, Nat.reduceEqDiff, List.all_cons, List.all_nil, opD_add, opD_sub, opD_mul, opD_mod, opD_fdiv, opD_pow, cmpD_lt, cmpD_le, cmpD_gt, cmpD_ge, bltD_int, bltD_len, bltD_lenT, bltD_min2, bltD_max2, bltD_tuple, bltD_tupleT, Nat.zero_lt_succ, Nat.reduceLT, Nat.reduceAdd, Nat.lt_add_one, decide_true, decide_false, ne_eq, not_true_eq_false, not_false_eq_true, reduceCtorEq, Int.reduceNeg, isiD, c]
  · simp only [rss, rs, evM, evsM, evPs, evP, setPs, ev, evs, evo, evc, vwS, fzA, frz, fzG, fz_fr, fz_un, fz_l, fz_ll, fz_dt, vw_fr, vw_un, vw_l, vw_ll, vw_dt, Sl.asL, Sl.asLL, Sl.asT, List.map_cons, List.map_nil, Option.bind_some, Option.map_some, Option.bind_none, Option.map_none, List.getElem?_cons_zero, List.getElem?_cons_succ, List.getElem?_nil, List.set_cons_zero, List.set_cons_succ, List.set_nil, isSc, asI, asLs, asTu, isBl, rowAt, setRow, resD, optI, bindS, bindSs, bindT, bindTs, wipeE, List.length_cons, List.length_nil, List.contains_nil, List.contains_cons, Bool.or_false, Bool.false_or, Bool.or_true, Bool.true_or, Bool.and_true, Bool.true_and, Bool.and_false, Bool.false_and, Bool.not_true, Bool.not_false, Bool.false_eq_true, if_true, if_false, ↓reduceIte, beq_iff_eq, Nat.reduceBEq, Nat.reduceEqDiff, List.all_cons, List.all_nil, opD_add, opD_sub, opD_mul, opD_mod, opD_fdiv, opD_pow, cmpD_lt, cmpD_le, cmpD_gt, cmpD_ge, bltD_int, bltD_len, bltD_lenT, bltD_min2, bltD_max2, bltD_tuple, bltD_tupleT, Nat.zero_lt_succ, Nat.reduceLT, Nat.reduceAdd, Nat.lt_add_one, decide_true, decide_false, ne_eq, not_true_eq_false, not_false_eq_true, reduceCtorEq, Int.reduceNeg, isiD, c]
def OkTupleOf (F : Orc) : Prop := ∀ (xs : List D) (a b : Int), F "tuple_of" false [.tup xs, .int a, .int b] none = some (.bl (decide (a ≤ (xs.length : Int)) && decide ((xs.length : Int) ≤ b)), none)
def bNeedPlace : List Sx := [.ifS (.not (.call "within" [.var 1, .int 0, .bin .Sub (.idx (.var 0) (.int 0)) (.int 1)])) [.never] []]
theorem need_place_run (F : Orc) (h : OkWithin F) (n : Int) (r : D) (p : Int) (h1 : 0 ≤ p) (h2 : p < n) : (rss F bNeedPlace [.fr (.tup [.int n, r]), .fr (.int p)] none).bind resD = some (.non, none) := by
  unfold bNeedPlace
  have e : idxD (.tup [.int n, r]) (.int 0) = some (.int n) := rfl
  have c : p ≤ n - 1 := by omega
  simp only [rss, rs, evM, evsM, evPs, evP, setPs, ev, evs, evo, evc, vwS, fzA, frz, fzG, fz_fr, fz_un, fz_l, fz_ll, fz_dt, vw_fr, vw_un, vw_l, vw_ll, vw_dt, Sl.asL, Sl.asLL, Sl.asT, List.map_cons, List.map_nil, Option.bind_some, Option.map_some, Option.bind_none, Option.map_none, List.getElem?_cons_zero, List.getElem?_cons_succ, List.getElem?_nil, List.set_cons_zero, List.set_cons_succ, List.set_nil, isSc, asI, asLs, asTu, isBl, rowAt, setRow, resD, optI, bindS, bindSs, bindT, bindTs, wipeE, List.length_cons, List.length_nil, List.contains_nil, List.contains_cons, Bool.or_false, Bool.false_or, Bool.or_true, Bool.true_or, Bool.and_true, Bool.true_and, Bool.and_false, Bool.false_and, Bool.not_true, Bool.not_false, Bool.false_eq_true, if_true, if_false, ↓reduceIte, beq_iff_eq, Nat.reduceBEq, Nat.reduceEqDiff, List.all_cons, List.all_nil, opD_add, opD_sub, opD_mul, opD_mod, opD_fdiv, opD_pow, cmpD_lt, cmpD_le, cmpD_gt, cmpD_ge, bltD_int, bltD_len, bltD_lenT, bltD_min2, bltD_max2, bltD_tuple, bltD_tupleT, Nat.zero_lt_succ, Nat.reduceLT, Nat.reduceAdd, Nat.lt_add_one, decide_true, decide_false, ne_eq, not_true_eq_false, not_false_eq_true, reduceCtorEq, Int.reduceNeg, h p 0 (n - 1), e, h1, c]
/-! ### draws -/
def OkTaken (F : Orc) : Prop := ∀ (w : W) (m : Int), 0 < m → m < 1073741824 → 0 ≤ w.a → ∃ t w', 0 ≤ t ∧ t < m ∧ 0 ≤ w'.a ∧ F "_law_taken" true [.int m] (some w) = some (.int t, some w')
theorem taken_ok (F : Orc) (w : W) (m : Int) (h1 : 0 < m) (h2 : m < 1073741824) (ha : 0 ≤ w.a) : ∃ t w', 0 ≤ t ∧ t < m ∧ 0 ≤ w'.a ∧ (rss F bTaken [.un, .fr (.int m), .un, .un] (some w)).bind resD = some (.int t, some w') :=
  ⟨_, _, drawW_lo w m h1, drawW_hi w m h1, drawW_a w m ha, taken_run F w m h1 h2 ha⟩
def bPick : List Sx := [.ret (.idx (.var 1) (.callR "_law_taken" [.blt .len [.var 1]]))]
/-- one of some things -/
theorem pick_run (F : Orc) (h : OkTaken F) (w : W) (xs : List D) (h1 : xs ≠ []) (h2 : xs.length < 1000) (ha : 0 ≤ w.a) : ∃ x w', x ∈ xs ∧ 0 ≤ w'.a ∧ (rss F bPick [.un, .fr (.lst xs)] (some w)).bind resD = some (x, some w') := by
  have hl : 0 < xs.length := List.length_pos_iff.mpr h1
  obtain ⟨t, w', t0, t1, wa, e⟩ := h w xs.length (by omega) (by omega) ha
  have hlt : t.toNat < xs.length := by omega
  have e2 : idxD (.lst xs) (.int t) = some xs[t.toNat] := by
    show atI xs t = _
    unfold atI ixN
    rw [if_pos t0, if_pos t1]
    exact List.getElem?_eq_getElem hlt
  refine ⟨xs[t.toNat], w', List.getElem_mem _, wa, ?_⟩
  unfold bPick
  simp only [rss, rs, evM, evsM, evPs, evP, setPs, ev, evs, evo, evc, vwS, fzA, frz, fzG, fz_fr, fz_un, fz_l, fz_ll, fz_dt, vw_fr, vw_un, vw_l, vw_ll, vw_dt, Sl.asL, Sl.asLL, Sl.asT, List.map_cons, List.map_nil, Option.bind_some, Option.map_some, Option.bind_none, Option.map_none, List.getElem?_cons_zero, List.getElem?_cons_succ, List.getElem?_nil, List.set_cons_zero, List.set_cons_succ, List.set_nil, isSc, asI, asLs, asTu, isBl, rowAt, setRow, resD, optI, bindS, bindSs, bindT, bindTs, wipeE, List.length_cons, List.length_nil, List.contains_nil, List.contains_cons, Bool.or_false, Bool.false_or, Bool.or_true, Bool.true_or, Bool.and_true, Bool.true_and, Bool.and_false, Bool.false_and, Bool.not_true, Bool.not_false, Bool.false_eq_true, if_true, if_false, ↓reduceIte, beq_iff_eq, Nat.reduceBEq, Nat.reduceEqDiff, List.all_cons, List.all_nil, opD_add, opD_sub, opD_mul, opD_mod, opD_fdiv, opD_pow, cmpD_lt, cmpD_le, cmpD_gt, cmpD_ge, bltD_int, bltD_len, bltD_lenT, bltD_min2, bltD_max2, bltD_tuple, bltD_tupleT, Nat.zero_lt_succ, Nat.reduceLT, Nat.reduceAdd, Nat.lt_add_one, decide_true, decide_false, ne_eq, not_true_eq_false, not_false_eq_true, reduceCtorEq, Int.reduceNeg, e, e2]
def OkPick (F : Orc) : Prop := ∀ (w : W) (xs : List D), xs ≠ [] → xs.length < 1000 → 0 ≤ w.a → ∃ x w', x ∈ xs ∧ 0 ≤ w'.a ∧ F "_law_pick" true [.lst xs] (some w) = some (x, some w')
/-- a comprehension that draws -/
theorem compL_ex (P : D → Prop) (f : D → Option W → Option (Option D × Option W)) : ∀ (its : List D), (∀ d ∈ its, ∀ w : W, 0 ≤ w.a → ∃ e w', P e ∧ 0 ≤ w'.a ∧ f d (some w) = some (some e, some w')) →
    ∀ w : W, 0 ≤ w.a → ∃ es w', es.length = its.length ∧ (∀ e ∈ es, P e) ∧ 0 ≤ w'.a ∧ compL f its (some w) = some (es, some w')
  | [], _, w, ha => ⟨[], w, rfl, fun _ h => by simp at h, ha, rfl⟩
  | d :: its, h, w, ha => by
    obtain ⟨e, w1, p1, a1, e1⟩ := h d (by simp) w ha
    obtain ⟨es, w2, l2, p2, a2, e2⟩ := compL_ex P f its (fun x hx => h x (by simp [hx])) w1 a1
    refine ⟨e :: es, w2, by simp [l2], fun x hx => ?_, a2, ?_⟩
    · rcases List.mem_cons.mp hx with z | z
      · rw [z]; exact p1
      · exact p2 x z
    · simp only [compL, e1, e2, Option.bind_some, Option.map_some]
/-- a comprehension that draws nothing -/
theorem compL_pure (f : D → Option W → Option (Option D × Option W)) (g : D → Option D) (w : Option W) : ∀ (its : List D), (∀ d ∈ its, f d w = some (g d, w)) → compL f its w = some (its.filterMap g, w)
  | [], _ => rfl
  | d :: its, h => by
    have e := compL_pure f g w its fun x hx => h x (by simp [hx])
    simp only [compL, h d (by simp), e, Option.bind_some, Option.map_some]
    cases q : g d with
    | none => rw [List.filterMap_cons_none q]
    | some y => rw [List.filterMap_cons_some q]
def bHeights : List Sx := [.ret (.blt .tuple [.comp [3] (.n 3) .range [.var 1] none (.callR "_law_taken" [.bin .Add (.var 2) (.int 1)])])]
theorem rng1 (n : Int) (h0 : 0 ≤ n) (h1 : n < 1000) : itemsD .range [.int n] = some ((List.range n.toNat).map fun (k : Nat) => D.int (0 + (k : Int))) := by
  simp only [itemsD]
  rw [if_pos]
  simp only [Bool.and_eq_true, decide_eq_true_eq]
  omega
theorem okLen_small {n : Nat} (h : n < 60000) : okLen n = true := by
  unfold okLen
  rw [decide_eq_true_eq]
  exact Nat.le_trans (Nat.le_of_lt h) (by decide)
theorem ints_of {P : Int → Prop} : ∀ {es : List D}, (∀ e ∈ es, ∃ i : Int, e = .int i ∧ P i) → ∃ is : List Int, es = is.map D.int ∧ ∀ i ∈ is, P i
  | [], _ => ⟨[], rfl, fun _ h => by simp at h⟩
  | e :: es, h => by
    obtain ⟨i, rfl, p⟩ := h e (by simp)
    obtain ⟨is, rfl, q⟩ := ints_of (es := es) fun x hx => h x (by simp [hx])
    exact ⟨i :: is, rfl, fun j hj => by
      rcases List.mem_cons.mp hj with z | z
      · rw [z]; exact p
      · exact q j z⟩
/-- heights -/
theorem heights_run (F : Orc) (h : OkTaken F) (w : W) (n m : Int) (h0 : 0 ≤ n) (h1 : n < 1000) (h2 : 0 ≤ m) (h3 : m < 1000000) (ha : 0 ≤ w.a) :
    ∃ (hs : List Int) (w' : W), hs.length = n.toNat ∧ (∀ x ∈ hs, 0 ≤ x ∧ x ≤ m) ∧ 0 ≤ w'.a ∧ (rss F bHeights [.un, .fr (.int n), .fr (.int m), .un] (some w)).bind resD = some (.tup (hs.map D.int), some w') := by
  obtain ⟨es, w', l, p, a, e⟩ := compL_ex (fun d => ∃ i : Int, d = .int i ∧ 0 ≤ i ∧ i ≤ m)
    (fun d w1 => (bindT (.n 3) d (wipeE [none, some (.int n), some (.int m), none] [3])).bind fun ρ1 => (evc F none ρ1 w1).bind fun t => if t.1 then (ev F (.callR "_law_taken" [.bin .Add (.var 2) (.int 1)]) ρ1 t.2).map fun r => (some r.1, r.2) else some (none, t.2))
    ((List.range n.toNat).map fun (k : Nat) => D.int (0 + (k : Int))) (fun d hd w1 a1 => by
      obtain ⟨t, w2, t0, t1, a2, e2⟩ := h w1 (m + 1) (by omega) (by omega) a1
      refine ⟨.int t, w2, ⟨t, rfl, t0, by omega⟩, a2, ?_⟩
      simp only [rss, rs, evM, evsM, evPs, evP, setPs, ev, evs, evo, evc, vwS, fzA, frz, fzG, fz_fr, fz_un, fz_l, fz_ll, fz_dt, vw_fr, vw_un, vw_l, vw_ll, vw_dt, Sl.asL, Sl.asLL, Sl.asT, List.map_cons, List.map_nil, Option.bind_some, Option.map_some, Option.bind_none, Option.map_none, List.getElem?_cons_zero, List.getElem?_cons_succ, List.getElem?_nil, List.set_cons_zero, List.set_cons_succ, List.set_nil, isSc, asI, asLs, asTu, isBl, rowAt, setRow, resD, optI, bindS, bindSs, bindT, bindTs, wipeE, List.length_cons, List.length_nil, List.contains_nil, List.contains_cons, Bool.or_false, Bool.false_or, Bool.or_true, Bool.true_or, Bool.and_true, Bool.true_and, Bool.and_false, Bool.false_and, Bool.not_true, Bool.not_false, Bool.false_eq_true, if_true, if_false, ↓reduceIte, beq_iff_eq, Nat.reduceBEq, Nat.reduceEqDiff, List.all_cons, List.all_nil, opD_add, opD_sub, opD_mul, opD_mod, opD_fdiv, opD_pow, cmpD_lt, cmpD_le, cmpD_gt, cmpD_ge, bltD_int, bltD_len, bltD_lenT, bltD_min2, bltD_max2, bltD_tuple, bltD_tupleT, Nat.zero_lt_succ, Nat.reduceLT, Nat.reduceAdd, Nat.lt_add_one, decide_true, decide_false, ne_eq, not_true_eq_false, not_false_eq_true, reduceCtorEq, Int.reduceNeg, e2]) w ha
  obtain ⟨hs, rfl, q⟩ := ints_of p
  have hl : hs.length = n.toNat := by simpa using l
  refine ⟨hs, w', hl, q, a, ?_⟩
  unfold bHeights
  simp only [rss, rs, evM, evsM, evPs, evP, setPs, ev, evs, evo, evc, vwS, fzA, frz, fzG, fz_fr, fz_un, fz_l, fz_ll, fz_dt, vw_fr, vw_un, vw_l, vw_ll, vw_dt, Sl.asL, Sl.asLL, Sl.asT, List.map_cons, List.map_nil, Option.bind_some, Option.map_some, Option.bind_none, Option.map_none, List.getElem?_cons_zero, List.getElem?_cons_succ, List.getElem?_nil, List.set_cons_zero, List.set_cons_succ, List.set_nil, isSc, asI, asLs, asTu, isBl, rowAt, setRow, resD, optI, bindS, bindSs, bindT, bindTs, wipeE, List.length_cons, List.length_nil, List.contains_nil, List.contains_cons, Bool.or_false, Bool.false_or, Bool.or_true, Bool.true_or, Bool.and_true, Bool.true_and, Bool.and_false, Bool.false_and, Bool.not_true, Bool.not_false, Bool.false_eq_true, if_true, if_false, ↓reduceIte, beq_iff_eq, Nat.reduceBEq, Nat.reduceEqDiff, List.all_cons, List.all_nil, opD_add, opD_sub, opD_mul, opD_mod, opD_fdiv, opD_pow, cmpD_lt, cmpD_le, cmpD_gt, cmpD_ge, bltD_int, bltD_len, bltD_lenT, bltD_min2, bltD_max2, bltD_tuple, bltD_tupleT, Nat.zero_lt_succ, Nat.reduceLT, Nat.reduceAdd, Nat.lt_add_one, decide_true, decide_false, ne_eq, not_true_eq_false, not_false_eq_true, reduceCtorEq, Int.reduceNeg] at e
  have ok : okLen (hs.map D.int).length = true := okLen_small (by rw [List.length_map, hl]; omega)
  simp only [rss, rs, evM, evsM, evPs, evP, setPs, ev, evs, evo, evc, vwS, fzA, frz, fzG, fz_fr, fz_un, fz_l, fz_ll, fz_dt, vw_fr, vw_un, vw_l, vw_ll, vw_dt, Sl.asL, Sl.asLL, Sl.asT, List.map_cons, List.map_nil, Option.bind_some, Option.map_some, Option.bind_none, Option.map_none, List.getElem?_cons_zero, List.getElem?_cons_succ, List.getElem?_nil, List.set_cons_zero, List.set_cons_succ, List.set_nil, isSc, asI, asLs, asTu, isBl, rowAt, setRow, resD, optI, bindS, bindSs, bindT, bindTs, wipeE, List.length_cons, List.length_nil, List.contains_nil, List.contains_cons, Bool.or_false, Bool.false_or, Bool.or_true, Bool.true_or, Bool.and_true, Bool.true_and, Bool.and_false, Bool.false_and, Bool.not_true, Bool.not_false, Bool.false_eq_true, if_true, if_false, ↓reduceIte, beq_iff_eq, Nat.reduceBEq, Nat.reduceEqDiff, List.all_cons, List.all_nil, opD_add, opD_sub, opD_mul, opD_mod, opD_fdiv, opD_pow, cmpD_lt, cmpD_le, cmpD_gt, cmpD_ge, bltD_int, bltD_len, bltD_lenT, bltD_min2, bltD_max2, bltD_tuple, bltD_tupleT, Nat.zero_lt_succ, Nat.reduceLT, Nat.reduceAdd, Nat.lt_add_one, decide_true, decide_false, ne_eq, not_true_eq_false, not_false_eq_true, reduceCtorEq, Int.reduceNeg, rng1 n h0 h1, e, ok]
end Lt

set_option Elab.async false
set_option linter.all false
set_option maxRecDepth 100000
set_option maxHeartbeats 4000000
/-! LtT: plain Lean: loops, tables. -/
namespace Lt
open PySem PySem.Spec PyProof.Rows L2
theorem forL_inv (f : D → Sls → Option W → Option Res) (I : Nat → Sls → Option W → Prop) : ∀ (its : List D) (k : Nat) (s : Sls) (w : Option W), (∀ i d s w, its[i]? = some d → I (k + i) s w → ∃ s' w', f d s w = some (.nx s' w') ∧ I (k + i + 1) s' w') → I k s w →
    ∃ s' w', forL f its s w = some (.nx s' w') ∧ I (k + its.length) s' w'
  | [], k, s, w, _, h => ⟨s, w, rfl, h⟩
  | d :: its, k, s, w, hf, h => by
    obtain ⟨s1, w1, e1, h1⟩ := hf 0 d s w rfl h
    obtain ⟨s2, w2, e2, h2⟩ := forL_inv f I its (k + 1) s1 w1 (fun i d s w e q => by
      have := hf (i + 1) d s w (by simpa using e) (by rw [show k + (i + 1) = k + 1 + i by omega]; exact q)
      rw [show k + (i + 1) + 1 = k + 1 + i + 1 by omega] at this
      exact this) (by simpa using h1)
    refine ⟨s2, w2, ?_, ?_⟩
    · simp only [forL, e1, Option.bind_some]
      exact e2
    · rw [show k + (d :: its).length = k + 1 + its.length by simp; omega]
      exact h2
theorem cmpD_eqI (i j : Int) : cmpD .Eq (.int i) (.int j) = some (decide (i = j)) := by
  have h : ∀ i : Int, eqOk (.int i) = true := fun i => rfl
  show (if (eqOk (.int i) && eqOk (.int j)) = true then some (eqD (.int i) (.int j)) else none) = _
  rw [h, h]
  show some (eqD (.int i) (.int j)) = _
  congr 1
theorem cmpD_neI (i j : Int) : cmpD .NotEq (.int i) (.int j) = some (!decide (i = j)) := by
  have h : ∀ i : Int, eqOk (.int i) = true := fun i => rfl
  show (if (eqOk (.int i) && eqOk (.int j)) = true then some (!eqD (.int i) (.int j)) else none) = _
  rw [h, h]
  show some (!eqD (.int i) (.int j)) = _
  congr 1
/-! ### tables -/
def rowD (n : Nat) (f : Nat → Int) : List D := (List.range n).map fun j => .int (f j)
def tblD (n : Nat) (f : Nat → Nat → Int) : List (List D) := (List.range n).map fun i => rowD n (f i)
def tblL (n : Nat) (f : Nat → Nat → Int) : D := .lst ((tblD n f).map D.lst)
theorem rowD_len (n : Nat) (f : Nat → Int) : (rowD n f).length = n := by simp [rowD]
theorem tblD_len (n : Nat) (f : Nat → Nat → Int) : (tblD n f).length = n := by simp [tblD]
theorem rowD_get (n : Nat) (f : Nat → Int) {j : Nat} (h : j < n) : (rowD n f)[j]? = some (.int (f j)) := by simp [rowD, h]
theorem tblD_get (n : Nat) (f : Nat → Nat → Int) {i : Nat} (h : i < n) : (tblD n f)[i]? = some (rowD n (f i)) := by simp [tblD, h]
theorem ixN_nat {n j : Nat} (h : j < n) : ixN n (j : Int) = some j := by
  unfold ixN
  rw [if_pos (by omega), if_pos (by omega)]
  rfl
theorem idx_tbl (n : Nat) (f : Nat → Nat → Int) {i : Nat} (h : i < n) : idxD (.lst ((tblD n f).map D.lst)) (.int (i : Int)) = some (.lst (rowD n (f i))) := by
  show atI ((tblD n f).map D.lst) (i : Int) = _
  unfold atI
  rw [List.length_map, tblD_len, ixN_nat h]
  show ((tblD n f).map D.lst)[i]? = _
  rw [List.getElem?_map, tblD_get n f h]
  rfl
theorem idx_row (n : Nat) (f : Nat → Int) {j : Nat} (h : j < n) : idxD (.lst (rowD n f)) (.int (j : Int)) = some (.int (f j)) := by
  show atI (rowD n f) (j : Int) = _
  unfold atI
  rw [rowD_len, ixN_nat h]
  exact rowD_get n f h
def upd2 (f : Nat → Nat → Int) (i j : Nat) (v : Int) : Nat → Nat → Int := fun x y => if x = i ∧ y = j then v else f x y
theorem rowD_set (n : Nat) (f g : Nat → Int) {j : Nat} {v : Int} (hg : ∀ y, y ≠ j → g y = f y) (hv : g j = v) : (rowD n f).set j (.int v) = rowD n g := by
  apply List.ext_getElem?
  intro y
  by_cases hy : y < n
  · rw [rowD_get n g hy]
    by_cases e : j = y
    · subst e
      rw [List.getElem?_set_self (by rw [rowD_len]; exact hy), hv]
    · rw [List.getElem?_set_ne e, rowD_get n f hy, hg y (fun z => e z.symm)]
  · rw [List.getElem?_eq_none (by rw [List.length_set, rowD_len]; omega), List.getElem?_eq_none (by rw [rowD_len]; omega)]
theorem tblD_set (n : Nat) (f : Nat → Nat → Int) {i j : Nat} (v : Int) (hi : i < n) : (tblD n f).set i ((rowD n (f i)).set j (.int v)) = tblD n (upd2 f i j v) := by
  apply List.ext_getElem?
  intro x
  by_cases hx : x < n
  · rw [tblD_get n _ hx]
    by_cases e : i = x
    · subst e
      rw [List.getElem?_set_self (by rw [tblD_len]; exact hx)]
      congr 1
      exact rowD_set n _ _ (fun y hy => by simp [upd2, hy]) (by simp [upd2])
    · rw [List.getElem?_set_ne e, tblD_get n f hx]
      congr 2
      funext y
      unfold upd2
      rw [if_neg fun z => e z.1.symm]
  · rw [List.getElem?_eq_none (by rw [List.length_set, tblD_len]; omega), List.getElem?_eq_none (by rw [tblD_len]; omega)]
/-- found[i][j] = v, in a table -/
theorem put2_tbl (n : Nat) (f : Nat → Nat → Int) {i j : Nat} (v : Int) (hi : i < n) (hj : j < n) {α : Type} (g : List (List D) → α) :
    ((ixN (tblD n f).length (i : Int)).bind fun a => ((tblD n f)[a]?).bind fun ds => (ixN ds.length (j : Int)).map fun b => g ((tblD n f).set a (ds.set b (.int v)))) = some (g (tblD n (upd2 f i j v))) := by
  rw [tblD_len, ixN_nat hi]
  simp only [Option.bind_some]
  rw [tblD_get n f hi]
  simp only [Option.bind_some]
  rw [rowD_len, ixN_nat hj]
  simp only [Option.map_some]
  rw [tblD_set n f v hi]
/-! ### distances: the stage of a middle -/
/-- all pairs through k -/
def stage (k : Nat) (f : Nat → Nat → Int) : Nat → Nat → Int := fun i j => min (f i j) (f i k + f k j)
structure Tri (n m : Nat) (f : Nat → Nat → Int) : Prop where
  z : ∀ i, i < n → f i i = 0
  p : ∀ i j, i < n → j < n → 0 ≤ f i j
  t : ∀ k i j, k < m → k < n → i < n → j < n → f i j ≤ f i k + f k j
theorem Tri.next {n k : Nat} {f : Nat → Nat → Int} (T : Tri n k f) (hk : k < n) : Tri n (k + 1) (stage k f) := by
  refine ⟨fun i hi => ?_, fun i j hi hj => ?_, fun k' i j hk' hkn hi hj => ?_⟩
  · have h1 := T.z i hi
    have h2 := T.p i k hi hk
    have h3 := T.p k i hk hi
    unfold stage
    omega
  · have h1 := T.p i j hi hj
    have h2 := T.p i k hi hk
    have h3 := T.p k j hk hj
    unfold stage
    omega
  · have z := T.z k hk
    have p1 := T.p i k hi hk
    have p2 := T.p k j hk hj
    have p3 := T.p k k' hk hkn
    have p4 := T.p k' k hkn hk
    by_cases e : k' = k
    · subst e
      unfold stage
      omega
    · have hlt : k' < k := by omega
      have t1 := T.t k' i j hlt hkn hi hj
      have t2 := T.t k' k j hlt hkn hk hj
      have t3 := T.t k' i k hlt hkn hi hk
      unfold stage
      omega
end Lt

set_option Elab.async false
set_option linter.all false
set_option maxRecDepth 100000
set_option maxHeartbeats 4000000
/-! LtU: plain Lean: distances of a net; table_of. -/
namespace Lt
open PySem PySem.Spec PyProof.Rows L2
abbrev Rod := Nat × Nat × Int
/-- what a table of distances is -/
structure IsDist (n : Nat) (rods : List Rod) (f : Nat → Nat → Int) : Prop where
  z : ∀ i, i < n → f i i = 0
  p : ∀ i j, i < n → j < n → 0 ≤ f i j
  e : ∀ r ∈ rods, ∀ i, i < n → f i r.2.1 ≤ f i r.1 + r.2.2 ∧ f i r.1 ≤ f i r.2.1 + r.2.2
  l : ∀ i j, i < n → j < n → i ≠ j → ∃ q, q < n ∧ ∃ r ∈ rods, ((r.1 = q ∧ r.2.1 = j) ∨ (r.2.1 = q ∧ r.1 = j)) ∧ f i j = f i q + r.2.2
theorem IsDist.le {n : Nat} {rods : List Rod} {f g : Nat → Nat → Int} (hp : ∀ r ∈ rods, 1 ≤ r.2.2) (hf : IsDist n rods f) (hg : IsDist n rods g) : ∀ (m : Nat) (i j : Nat), i < n → j < n → g i j ≤ m → f i j ≤ g i j := by
  intro m
  induction m with
  | zero =>
    intro i j hi hj h
    by_cases e : i = j
    · subst e; rw [hf.z i hi, hg.z i hi]; exact Int.le_refl _
    · obtain ⟨q, hq, r, hr, _, h2⟩ := hg.l i j hi hj e
      have := hg.p i q hi hq
      have := hp r hr
      omega
  | succ m ih =>
    intro i j hi hj h
    by_cases e : i = j
    · subst e; rw [hf.z i hi, hg.z i hi]; exact Int.le_refl _
    · obtain ⟨q, hq, r, hr, h1, h2⟩ := hg.l i j hi hj e
      have h3 := hp r hr
      have h4 := ih i q hi hq (by omega)
      obtain ⟨h5, h6⟩ := hf.e r hr i hi
      rcases h1 with ⟨rfl, rfl⟩ | ⟨rfl, rfl⟩ <;> omega
theorem IsDist.unique {n : Nat} {rods : List Rod} {f g : Nat → Nat → Int} (hp : ∀ r ∈ rods, 1 ≤ r.2.2) (hf : IsDist n rods f) (hg : IsDist n rods g) {i j : Nat} (hi : i < n) (hj : j < n) : f i j = g i j := by
  have p1 := hf.p i j hi hj
  have p2 := hg.p i j hi hj
  have h1 := IsDist.le hp hf hg (g i j).toNat i j hi hj (by omega)
  have h2 := IsDist.le hp hg hf (f i j).toNat i j hi hj (by omega)
  omega
/-- a walk along rods, its length -/
inductive Wk (rods : List Rod) (i : Nat) : Nat → Int → Prop
  | nil : Wk rods i i 0
  | snoc {p j : Nat} {c l : Int} : Wk rods i p c → ((p, j, l) ∈ rods ∨ (j, p, l) ∈ rods) → Wk rods i j (c + l)
theorem Wk.append {rods : List Rod} {i j k : Nat} {a b : Int} (h : Wk rods i j a) (h2 : Wk rods j k b) : Wk rods i k (a + b) := by
  induction h2 with
  | nil => simpa using h
  | @snoc p k c l _ hr ih =>
    rw [← Int.add_assoc]
    exact .snoc ih hr
/-- entries are lengths of walks, or great -/
def Real (rods : List Rod) (inf : Int) (n : Nat) (f : Nat → Nat → Int) : Prop := ∀ i j, i < n → j < n → inf ≤ f i j ∨ Wk rods i j (f i j)
theorem Real.stage {rods : List Rod} {inf : Int} {n k : Nat} {f : Nat → Nat → Int} (h : Real rods inf n f) (hk : k < n) (hp : ∀ i j, i < n → j < n → 0 ≤ f i j) : Real rods inf n (stage k f) := by
  intro i j hi hj
  unfold Lt.stage
  by_cases c : f i j ≤ f i k + f k j
  · rw [Int.min_eq_left c]; exact h i j hi hj
  · rw [Int.min_eq_right (by omega)]
    have p1 := hp i k hi hk
    have p2 := hp k j hk hj
    rcases h i k hi hk with z | z
    · exact .inl (by omega)
    · rcases h k j hk hj with y | y
      · exact .inl (by omega)
      · exact .inr (z.append y)
/-- walks are no shorter than the table tells -/
theorem le_walk {rods : List Rod} {n : Nat} {f : Nat → Nat → Int} (hn : ∀ r ∈ rods, r.1 < n ∧ r.2.1 < n) (hz : ∀ i, i < n → f i i = 0) (he : ∀ r ∈ rods, ∀ i, i < n → f i r.2.1 ≤ f i r.1 + r.2.2 ∧ f i r.1 ≤ f i r.2.1 + r.2.2) {i : Nat} (hi : i < n) {j : Nat} {c : Int} (h : Wk rods i j c) : f i j ≤ c ∧ j < n := by
  induction h with
  | nil => exact ⟨by rw [hz i hi]; exact Int.le_refl _, hi⟩
  | @snoc p j c l _ hr ih =>
    rcases hr with hr | hr
    · have := (he _ hr i hi).1
      exact ⟨by show f i j ≤ c + l; have h2 : f i j ≤ f i p + l := this; omega, (hn _ hr).2⟩
    · have := (he _ hr i hi).2
      exact ⟨by show f i j ≤ c + l; have h2 : f i j ≤ f i p + l := this; omega, (hn _ hr).1⟩
/-- the table of all middles is one of distances -/
theorem dist_of {rods : List Rod} {inf : Int} {n : Nat} {f : Nat → Nat → Int} (hn : ∀ r ∈ rods, r.1 < n ∧ r.2.1 < n) (hp1 : ∀ r ∈ rods, 1 ≤ r.2.2) (hz : ∀ i, i < n → f i i = 0) (hp : ∀ i j, i < n → j < n → 0 ≤ f i j)
    (he : ∀ r ∈ rods, ∀ i, i < n → f i r.2.1 ≤ f i r.1 + r.2.2 ∧ f i r.1 ≤ f i r.2.1 + r.2.2) (hr : Real rods inf n f) (hc : ∀ i j, i < n → j < n → f i j < inf) : IsDist n rods f := by
  refine ⟨hz, hp, he, fun i j hi hj hij => ?_⟩
  have h : ∀ c, Wk rods i j c → f i j = c → ∃ q, q < n ∧ ∃ r ∈ rods, ((r.1 = q ∧ r.2.1 = j) ∨ (r.2.1 = q ∧ r.1 = j)) ∧ f i j = f i q + r.2.2 := fun c w e => by
    cases w with
    | nil => exact absurd rfl hij
    | @snoc p _ c l w' hr' =>
      obtain ⟨h1, h2⟩ := le_walk hn hz he hi w'
      rcases hr' with hr' | hr'
      · have h3 : f i j ≤ f i p + l := (he _ hr' i hi).1
        exact ⟨p, h2, _, hr', .inl ⟨rfl, rfl⟩, by show f i j = f i p + l; omega⟩
      · have h3 : f i j ≤ f i p + l := (he _ hr' i hi).2
        exact ⟨p, h2, _, hr', .inr ⟨rfl, rfl⟩, by show f i j = f i p + l; omega⟩
  rcases hr i j hi hj with z | z
  · have := hc i j hi hj; omega
  · exact h _ z rfl
end Lt

set_option Elab.async false
set_option linter.all false
set_option maxRecDepth 100000
set_option maxHeartbeats 4000000
/-! LtV: plain Lean: table_of works out the distances. -/
namespace Lt
open PySem PySem.Spec PyProof.Rows L2
def rodD (r : Rod) : D := .tup [.int (r.1 : Int), .int (r.2.1 : Int), .int r.2.2]
def netD (n : Nat) (rods : List Rod) : D := .tup [.int (n : Int), .tup (rods.map rodD)]
/-- a net as the program wants it -/
structure NetOk (n : Nat) (rods : List Rod) : Prop where
  lo : 1 ≤ n
  hi : n ≤ 8
  srt : rods.Pairwise fun a b => a.1 < b.1 ∨ (a.1 = b.1 ∧ a.2.1 < b.2.1)
  rod : ∀ r ∈ rods, r.1 < r.2.1 ∧ r.2.1 < n ∧ 1 ≤ r.2.2 ∧ r.2.2 ≤ 9
  con : ∀ p, 1 ≤ p → p < n → ∃ t l, t < p ∧ (t, p, l) ∈ rods
theorem lstsD_tbl : ∀ xs : List (List D), lstsD (xs.map D.lst) = some xs
  | [] => rfl
  | x :: xs => by simp only [List.map_cons, lstsD, lstsD_tbl xs, Option.map_some]
def rngD (n : Nat) : List D := (List.range n).map fun (k : Nat) => D.int (0 + (k : Int))
theorem rngD_len (n : Nat) : (rngD n).length = n := by simp [rngD]
theorem rngD_get {n i : Nat} {d : D} (h : (rngD n)[i]? = some d) : i < n ∧ d = .int (i : Int) := by
  unfold rngD at h
  rw [List.getElem?_map] at h
  obtain ⟨k, h1, h2⟩ := Option.map_eq_some_iff.mp h
  obtain ⟨h3, h4⟩ := List.getElem?_eq_some_iff.mp h1
  rw [List.getElem_range] at h4
  subst h4
  rw [List.length_range] at h3
  exact ⟨h3, by rw [← h2, Int.zero_add]⟩
theorem rngN (n : Nat) (h : n < 1000) : itemsD .range [.int (n : Int)] = some (rngD n) := by
  have := rng1 (n : Int) (by omega) (by omega)
  rw [this]
  rfl
theorem filterMap_rng (n : Nat) (g : D → Option D) (v : Nat → D) (h : ∀ k, k < n → g (.int (k : Int)) = some (v k)) : (rngD n).filterMap g = (List.range n).map v := by
  unfold rngD
  rw [List.filterMap_map]
  have : ∀ l : List Nat, (∀ k ∈ l, k < n) → l.filterMap (g ∘ fun (k : Nat) => D.int (0 + (k : Int))) = l.map v := by
    intro l
    induction l with
    | nil => intro _; rfl
    | cons k l ih =>
      intro hl
      have h1 : (g ∘ fun (k : Nat) => D.int (0 + (k : Int))) k = some (v k) := by
        show g (.int (0 + (k : Int))) = _
        rw [Int.zero_add]
        exact h k (hl k (by simp))
      rw [List.filterMap_cons_some h1, ih fun x hx => hl x (by simp [hx])]
      rfl
  exact this _ fun k hk => List.mem_range.mp hk
/-- a comprehension over a range that draws nothing -/
theorem compL_rng (n : Nat) (f : D → Option W → Option (Option D × Option W)) (v : Nat → D) (w : Option W) (h : ∀ k, k < n → f (.int (k : Int)) w = some (some (v k), w)) : compL f (rngD n) w = some ((List.range n).map v, w) := by
  have h1 : ∀ d ∈ rngD n, ∃ k : Nat, k < n ∧ d = .int (k : Int) := fun d hd => by
    obtain ⟨i, hi, e⟩ := List.mem_iff_getElem.mp hd
    obtain ⟨h2, h3⟩ := rngD_get (n := n) (i := i) (d := d) (by rw [List.getElem?_eq_getElem hi, e])
    exact ⟨i, h2, h3⟩
  have e := compL_pure f (fun d => match d with | .int i => some (v i.toNat) | _ => none) w (rngD n) fun d hd => by
    obtain ⟨k, hk, rfl⟩ := h1 d hd
    rw [h k hk]
    rfl
  rw [e, filterMap_rng n _ v fun k _ => rfl]
def bTableOf : List Sx := [.unp (.t [.n 3, .n 4]) (.fz []) (.var 0), .new2 1 (.fz []) (.comp [5] (.n 5) .range [.var 3] none (.comp [6] (.n 6) .range [.var 3] none (.ite (.cmp .Eq (.var 5) (.var 6)) (.int 0) (.int 9999)))), .forS (.t [.n 5, .n 6, .n 7]) .plain (.fz []) [.var 4] [.put2 1 (.blt .min2 [.idx (.idx (.var 1) (.var 5)) (.var 6), .var 7]) (.var 5) (.var 6), .put2 1 (.idx (.idx (.var 1) (.var 5)) (.var 6)) (.var 6) (.var 5)], .forS (.n 2) .range (.fz []) [.var 3] [.forS (.n 5) .range (.fz []) [.var 3] [.forS (.n 6) .range (.fz []) [.var 3] [.put2 1 (.blt .min2 [.idx (.idx (.var 1) (.var 5)) (.var 6), .bin .Add (.idx (.idx (.var 1) (.var 5)) (.var 2)) (.idx (.idx (.var 1) (.var 2)) (.var 6))]) (.var 5) (.var 6)]]], .ret (.var 1)]
def f0 (inf : Int) : Nat → Nat → Int := fun i j => if i = j then 0 else inf
/-- a comprehension, by its parts -/
theorem comp_run {F : Orc} {own : List Nat} {tg : Tg} {ik : IK} {es : List E} {cond : Option E} {elt : E} {ρ : Env} {w w0 w1 : Option W} {ds its r : List D} (h1 : evs F es ρ w = some (ds, w0)) (h2 : itemsD ik ds = some its) (h3 : compL (turnF F own tg cond elt ρ) its w0 = some (r, w1)) (ok : r.length < 60000) :
    ev F (.comp own tg ik es cond elt) ρ w = some (.lst r, w1) := by
  rw [ev, h1, Option.bind_some, h2, Option.bind_some]
  have h4 : compL (fun d w1 => (bindT tg d (wipeE ρ own)).bind fun ρ1 => (evc F cond ρ1 w1).bind fun t => if t.1 then (ev F elt ρ1 t.2).map fun r => (some r.1, r.2) else some (none, t.2)) its w0 = some (r, w1) := h3
  rw [h4, Option.bind_some]
  exact if_pos (okLen_small ok)
theorem tbl_map (n : Nat) (f : Nat → Nat → Int) : (tblD n f).map D.lst = (List.range n).map fun i => D.lst (rowD n (f i)) := by
  unfold tblD
  rw [List.map_map]
  rfl
theorem tbl_inner (F : Orc) (n : Nat) (hn : n < 1000) (i : Nat) (x1 x2 x3 x4 x5 x6 : Option D) : ev F (.comp [6] (.n 6) .range [.var 3] none (.ite (.cmp .Eq (.var 5) (.var 6)) (.int 0) (.int 9999))) [x1, x2, x3, some (.int (n : Int)), x4, some (.int (i : Int)), x5, x6] none = some (.lst (rowD n (f0 9999 i)), none) := by
  refine comp_run (its := rngD n) (ds := [.int (n : Int)]) (w0 := none) ?_ (rngN n hn) (compL_rng n _ _ none fun j hj => ?_) (by rw [rowD_len]; omega)
  · simp only [rss, rs, evM, evsM, evPs, evP, setPs, ev, evs, evo, evc, vwS, fzA, frz, fzG, fz_fr, fz_un, fz_l, fz_ll, fz_dt, vw_fr, vw_un, vw_l, vw_ll, vw_dt, Sl.asL, Sl.asLL, Sl.asT, List.map_cons, List.map_nil, Option.bind_some, Option.map_some, Option.bind_none, Option.map_none, List.getElem?_cons_zero, List.getElem?_cons_succ, List.getElem?_nil, List.set_cons_zero, List.set_cons_succ, List.set_nil, isSc, asI, asLs, asTu, isBl, rowAt, setRow, resD, optI, bindS, bindSs, bindT, bindTs, wipeE, List.length_cons, List.length_nil, List.contains_nil, List.contains_cons, Bool.or_false, Bool.false_or, Bool.or_true, Bool.true_or, Bool.and_true, Bool.true_and, Bool.and_false, Bool.false_and, Bool.not_true, Bool.not_false, Bool.false_eq_true, if_true, if_false, ↓reduceIte, beq_iff_eq, Nat.reduceBEq, Nat.reduceEqDiff, List.all_cons, List.all_nil, opD_add, opD_sub, opD_mul, opD_mod, opD_fdiv, opD_pow, cmpD_lt, cmpD_le, cmpD_gt, cmpD_ge, bltD_int, bltD_len, bltD_lenT, bltD_min2, bltD_max2, bltD_tuple, bltD_tupleT, Nat.zero_lt_succ, Nat.reduceLT, Nat.reduceAdd, Nat.lt_add_one, decide_true, decide_false, ne_eq, not_true_eq_false, not_false_eq_true, reduceCtorEq, Int.reduceNeg]
  · unfold turnF
    simp only [rss, rs, evM, evsM, evPs, evP, setPs, ev, evs, evo, evc, vwS, fzA, frz, fzG, fz_fr, fz_un, fz_l, fz_ll, fz_dt, vw_fr, vw_un, vw_l, vw_ll, vw_dt, Sl.asL, Sl.asLL, Sl.asT, List.map_cons, List.map_nil, Option.bind_some, Option.map_some, Option.bind_none, Option.map_none, List.getElem?_cons_zero, List.getElem?_cons_succ, List.getElem?_nil, List.set_cons_zero, List.set_cons_succ, List.set_nil, isSc, asI, asLs, asTu, isBl, rowAt, setRow, resD, optI, bindS, bindSs, bindT, bindTs, wipeE, List.length_cons, List.length_nil, List.contains_nil, List.contains_cons, Bool.or_false, Bool.false_or, Bool.or_true, Bool.true_or, Bool.and_true, Bool.true_and, Bool.and_false, Bool.false_and, Bool.not_true, Bool.not_false, Bool.false_eq_true, if_true, if_false, ↓reduceIte, beq_iff_eq, Nat.reduceBEq, Nat.reduceEqDiff, List.all_cons, List.all_nil, opD_add, opD_sub, opD_mul, opD_mod, opD_fdiv, opD_pow, cmpD_lt, cmpD_le, cmpD_gt, cmpD_ge, bltD_int, bltD_len, bltD_lenT, bltD_min2, bltD_max2, bltD_tuple, bltD_tupleT, Nat.zero_lt_succ, Nat.reduceLT, Nat.reduceAdd, Nat.lt_add_one, decide_true, decide_false, ne_eq, not_true_eq_false, not_false_eq_true, reduceCtorEq, Int.reduceNeg, cmpD_eqI]
    unfold f0
    by_cases e : i = j
    · have e2 : (i : Int) = (j : Int) := by omega
      rw [if_pos (by rw [decide_eq_true_eq]; exact e2), if_pos e]
      rfl
    · have e2 : ¬ (i : Int) = j := by omega
      rw [if_neg (by rw [decide_eq_true_eq]; exact e2), if_neg e]
      rfl
theorem tbl_outer (F : Orc) (n : Nat) (hn : n < 1000) (x1 x2 x3 x4 x5 x6 x7 : Option D) : ev F (.comp [5] (.n 5) .range [.var 3] none (.comp [6] (.n 6) .range [.var 3] none (.ite (.cmp .Eq (.var 5) (.var 6)) (.int 0) (.int 9999)))) [x1, x2, x3, some (.int (n : Int)), x4, x5, x6, x7] none = some (.lst ((tblD n (f0 9999)).map D.lst), none) := by
  rw [tbl_map]
  refine comp_run (its := rngD n) (ds := [.int (n : Int)]) (w0 := none) ?_ (rngN n hn) (compL_rng n _ _ none fun i hi => ?_) (by rw [List.length_map, List.length_range]; omega)
  · simp only [rss, rs, evM, evsM, evPs, evP, setPs, ev, evs, evo, evc, vwS, fzA, frz, fzG, fz_fr, fz_un, fz_l, fz_ll, fz_dt, vw_fr, vw_un, vw_l, vw_ll, vw_dt, Sl.asL, Sl.asLL, Sl.asT, List.map_cons, List.map_nil, Option.bind_some, Option.map_some, Option.bind_none, Option.map_none, List.getElem?_cons_zero, List.getElem?_cons_succ, List.getElem?_nil, List.set_cons_zero, List.set_cons_succ, List.set_nil, isSc, asI, asLs, asTu, isBl, rowAt, setRow, resD, optI, bindS, bindSs, bindT, bindTs, wipeE, List.length_cons, List.length_nil, List.contains_nil, List.contains_cons, Bool.or_false, Bool.false_or, Bool.or_true, Bool.true_or, Bool.and_true, Bool.true_and, Bool.and_false, Bool.false_and, Bool.not_true, Bool.not_false, Bool.false_eq_true, if_true, if_false, ↓reduceIte, beq_iff_eq, Nat.reduceBEq, Nat.reduceEqDiff, List.all_cons, List.all_nil, opD_add, opD_sub, opD_mul, opD_mod, opD_fdiv, opD_pow, cmpD_lt, cmpD_le, cmpD_gt, cmpD_ge, bltD_int, bltD_len, bltD_lenT, bltD_min2, bltD_max2, bltD_tuple, bltD_tupleT, Nat.zero_lt_succ, Nat.reduceLT, Nat.reduceAdd, Nat.lt_add_one, decide_true, decide_false, ne_eq, not_true_eq_false, not_false_eq_true, reduceCtorEq, Int.reduceNeg]
  · have h := tbl_inner F n hn i x1 x2 x3 x4 x6 x7
    show ((bindT (.n 5) (.int (i : Int)) (wipeE [x1, x2, x3, some (.int (n : Int)), x4, x5, x6, x7] [5])).bind fun ρ1 => (evc F none ρ1 none).bind fun t => if t.1 = true then (ev F (.comp [6] (.n 6) .range [.var 3] none (.ite (.cmp .Eq (.var 5) (.var 6)) (.int 0) (.int 9999))) ρ1 t.2).map fun r => (some r.1, r.2) else some (none, t.2)) = _
    rw [show bindT (.n 5) (.int (i : Int)) (wipeE [x1, x2, x3, some (.int (n : Int)), x4, x5, x6, x7] [5]) = some [x1, x2, x3, some (.int (n : Int)), x4, some (.int (i : Int)), x6, x7] from rfl, Option.bind_some]
    rw [show evc F none [x1, x2, x3, some (.int (n : Int)), x4, some (.int (i : Int)), x6, x7] none = some (true, none) from rfl, Option.bind_some]
    rw [if_pos rfl, h]
    rfl
theorem new_tbl (F : Orc) (n : Nat) (hn : n < 1000) (net rs' a b c d m : Sl) :
    rs F (.new2 1 (.fz []) (.comp [5] (.n 5) .range [.var 3] none (.comp [6] (.n 6) .range [.var 3] none (.ite (.cmp .Eq (.var 5) (.var 6)) (.int 0) (.int 9999))))) [net, a, m, .fr (.int (n : Int)), rs', b, c, d] none = some (.nx [net, .ll (tblD n (f0 9999)), m, .fr (.int (n : Int)), rs', b, c, d] none) := by
  have h := tbl_outer F n hn net.vw a.vw m.vw rs'.vw b.vw c.vw d.vw
  generalize E.comp [5] (.n 5) .range [.var 3] none (.comp [6] (.n 6) .range [.var 3] none (.ite (.cmp .Eq (.var 5) (.var 6)) (.int 0) (.int 9999))) = ex at h ⊢
  simp only [rss, rs, evM, evsM, evPs, evP, setPs, ev, evs, evo, evc, vwS, fzA, frz, fzG, fz_fr, fz_un, fz_l, fz_ll, fz_dt, vw_fr, vw_un, vw_l, vw_ll, vw_dt, Sl.asL, Sl.asLL, Sl.asT, List.map_cons, List.map_nil, Option.bind_some, Option.map_some, Option.bind_none, Option.map_none, List.getElem?_cons_zero, List.getElem?_cons_succ, List.getElem?_nil, List.set_cons_zero, List.set_cons_succ, List.set_nil, isSc, asI, asLs, asTu, isBl, rowAt, setRow, resD, optI, bindS, bindSs, bindT, bindTs, wipeE, List.length_cons, List.length_nil, List.contains_nil, List.contains_cons, Bool.or_false, Bool.false_or, Bool.or_true, Bool.true_or, Bool.and_true, Bool.true_and, Bool.and_false, Bool.false_and, Bool.not_true, Bool.not_false, Bool.false_eq_true, if_true, if_false, ↓reduceIte, beq_iff_eq, Nat.reduceBEq, Nat.reduceEqDiff, List.all_cons, List.all_nil, opD_add, opD_sub, opD_mul, opD_mod, opD_fdiv, opD_pow, cmpD_lt, cmpD_le, cmpD_gt, cmpD_ge, bltD_int, bltD_len, bltD_lenT, bltD_min2, bltD_max2, bltD_tuple, bltD_tupleT, Nat.zero_lt_succ, Nat.reduceLT, Nat.reduceAdd, Nat.lt_add_one, decide_true, decide_false, ne_eq, not_true_eq_false, not_false_eq_true, reduceCtorEq, Int.reduceNeg, h, lstsD_tbl]
/-- the one step of table_of's loops -/
def bIn : Sx := .put2 1 (.blt .min2 [.idx (.idx (.var 1) (.var 5)) (.var 6), .bin .Add (.idx (.idx (.var 1) (.var 5)) (.var 2)) (.idx (.idx (.var 1) (.var 2)) (.var 6))]) (.var 5) (.var 6)
def mn (a b : Int) : Int := if b < a then b else a
theorem mn_min (a b : Int) : mn a b = min a b := by
  unfold mn
  split <;> omega
theorem in_step (F : Orc) (n k i j : Nat) (g : Nat → Nat → Int) (hk : k < n) (hi : i < n) (hj : j < n) (net m' rs' c : Sl) :
    rs F bIn [net, .ll (tblD n g), .fr (.int (k : Int)), m', rs', .fr (.int (i : Int)), .fr (.int (j : Int)), c] none = some (.nx [net, .ll (tblD n (upd2 g i j (mn (g i j) (g i k + g k j)))), .fr (.int (k : Int)), m', rs', .fr (.int (i : Int)), .fr (.int (j : Int)), c] none) := by
  unfold bIn mn
  simp only [rss, rs, evM, evsM, evPs, evP, setPs, ev, evs, evo, evc, vwS, fzA, frz, fzG, fz_fr, fz_un, fz_l, fz_ll, fz_dt, vw_fr, vw_un, vw_l, vw_ll, vw_dt, Sl.asL, Sl.asLL, Sl.asT, List.map_cons, List.map_nil, Option.bind_some, Option.map_some, Option.bind_none, Option.map_none, List.getElem?_cons_zero, List.getElem?_cons_succ, List.getElem?_nil, List.set_cons_zero, List.set_cons_succ, List.set_nil, isSc, asI, asLs, asTu, isBl, rowAt, setRow, resD, optI, bindS, bindSs, bindT, bindTs, wipeE, List.length_cons, List.length_nil, List.contains_nil, List.contains_cons, Bool.or_false, Bool.false_or, Bool.or_true, Bool.true_or, Bool.and_true, Bool.true_and, Bool.and_false, Bool.false_and, Bool.not_true, Bool.not_false, Bool.false_eq_true, if_true, if_false, ↓reduceIte, beq_iff_eq, Nat.reduceBEq, Nat.reduceEqDiff, List.all_cons, List.all_nil, opD_add, opD_sub, opD_mul, opD_mod, opD_fdiv, opD_pow, cmpD_lt, cmpD_le, cmpD_gt, cmpD_ge, bltD_int, bltD_len, bltD_lenT, bltD_min2, bltD_max2, bltD_tuple, bltD_tupleT, Nat.zero_lt_succ, Nat.reduceLT, Nat.reduceAdd, Nat.lt_add_one, decide_true, decide_false, ne_eq, not_true_eq_false, not_false_eq_true, reduceCtorEq, Int.reduceNeg, idx_tbl n g hi, idx_tbl n g hk, idx_row n (g i) hj, idx_row n (g i) hk, idx_row n (g k) hj, tblD_len, ixN_nat hi, tblD_get n g hi, rowD_len, ixN_nat hj, tblD_set n g _ hi]
/-- what stands in the table in the stage of k, before (i, j) -/
def mid (k i j : Nat) (f : Nat → Nat → Int) : Nat → Nat → Int := fun x y => if x < i ∨ (x = i ∧ y < j) then stage k f x y else f x y
theorem mid_step {n k i j : Nat} {f g : Nat → Nat → Int} (hz : f k k = 0) (hp : ∀ x y, x < n → y < n → 0 ≤ f x y) (hk : k < n) (hi : i < n) (hj : j < n) (hg : ∀ x y, x < n → y < n → g x y = mid k i j f x y) :
    ∀ x y, x < n → y < n → upd2 g i j (mn (g i j) (g i k + g k j)) x y = mid k i (j + 1) f x y := by
  intro x y hx hy
  have e1 := hg i j hi hj
  have e2 := hg i k hi hk
  have e3 := hg k j hk hj
  have p1 := hp i k hi hk
  have p2 := hp k j hk hj
  have s1 : ∀ a, stage k f a k = min (f a k) (f a k + f k k) := fun _ => rfl
  have s2 : ∀ b, stage k f k b = min (f k b) (f k k + f k b) := fun _ => rfl
  have e2' : g i k = f i k := by
    rw [e2]
    unfold mid
    split
    · rw [s1]; omega
    · rfl
  have e3' : g k j = f k j := by
    rw [e3]
    unfold mid
    split
    · rw [s2]; omega
    · rfl
  have e1' : g i j = f i j := by
    rw [e1]
    unfold mid
    rw [if_neg (by omega)]
  by_cases h : x = i ∧ y = j
  · obtain ⟨rfl, rfl⟩ := h
    unfold upd2 mid
    rw [if_pos ⟨rfl, rfl⟩, if_pos (by omega), mn_min, e1', e2', e3']
    rfl
  · unfold upd2
    rw [if_neg h, hg x y hx hy]
    unfold mid
    by_cases c : x < i ∨ (x = i ∧ y < j)
    · rw [if_pos c, if_pos (by omega)]
    · rw [if_neg c, if_neg (by omega)]
/-- a loop, by its parts -/
theorem for_run {F : Orc} {tg : Tg} {ik : IK} {md : Md} {ms : List E} {body : List Sx} {s s0 : Sls} {w w0 : Option W} {ds its : List D} (h1 : evsM F ms md s w = some (ds, s0, w0)) (h2 : itemsD ik ds = some its) :
    rs F (.forS tg ik md ms body) s w = forL (fun d s1 w1 => (bindS tg d s1).bind fun s2 => rss F body s2 w1) its s0 w0 := by
  rw [rs, h1, Option.bind_some]
  dsimp only
  rw [h2, Option.bind_some]
def bJ : Sx := .forS (.n 6) .range (.fz []) [.var 3] [bIn]
theorem loop_j (F : Orc) (n k i : Nat) (hn : n < 1000) (f g : Nat → Nat → Int) (hz : f k k = 0) (hp : ∀ x y, x < n → y < n → 0 ≤ f x y) (hk : k < n) (hi : i < n) (hg : ∀ x y, x < n → y < n → g x y = mid k i 0 f x y) (net rs' c x6 : Sl) :
    ∃ g' x6', rs F bJ [net, .ll (tblD n g), .fr (.int (k : Int)), .fr (.int (n : Int)), rs', .fr (.int (i : Int)), x6, c] none = some (.nx [net, .ll (tblD n g'), .fr (.int (k : Int)), .fr (.int (n : Int)), rs', .fr (.int (i : Int)), x6', c] none) ∧ ∀ x y, x < n → y < n → g' x y = mid k (i + 1) 0 f x y := by
  have e1 : evsM F [.var 3] (.fz []) [net, .ll (tblD n g), .fr (.int (k : Int)), .fr (.int (n : Int)), rs', .fr (.int (i : Int)), x6, c] none = some ([.int (n : Int)], [net, .ll (tblD n g), .fr (.int (k : Int)), .fr (.int (n : Int)), rs', .fr (.int (i : Int)), x6, c], none) := by
    simp only [rss, rs, evM, evsM, evPs, evP, setPs, ev, evs, evo, evc, vwS, fzA, frz, fzG, fz_fr, fz_un, fz_l, fz_ll, fz_dt, vw_fr, vw_un, vw_l, vw_ll, vw_dt, Sl.asL, Sl.asLL, Sl.asT, List.map_cons, List.map_nil, Option.bind_some, Option.map_some, Option.bind_none, Option.map_none, List.getElem?_cons_zero, List.getElem?_cons_succ, List.getElem?_nil, List.set_cons_zero, List.set_cons_succ, List.set_nil, isSc, asI, asLs, asTu, isBl, rowAt, setRow, resD, optI, bindS, bindSs, bindT, bindTs, wipeE, List.length_cons, List.length_nil, List.contains_nil, List.contains_cons, Bool.or_false, Bool.false_or, Bool.or_true, Bool.true_or, Bool.and_true, Bool.true_and, Bool.and_false, Bool.false_and, Bool.not_true, Bool.not_false, Bool.false_eq_true, if_true, if_false, ↓reduceIte, beq_iff_eq, Nat.reduceBEq, Nat.reduceEqDiff, List.all_cons, List.all_nil, opD_add, opD_sub, opD_mul, opD_mod, opD_fdiv, opD_pow, cmpD_lt, cmpD_le, cmpD_gt, cmpD_ge, bltD_int, bltD_len, bltD_lenT, bltD_min2, bltD_max2, bltD_tuple, bltD_tupleT, Nat.zero_lt_succ, Nat.reduceLT, Nat.reduceAdd, Nat.lt_add_one, decide_true, decide_false, ne_eq, not_true_eq_false, not_false_eq_true, reduceCtorEq, Int.reduceNeg]
  unfold bJ
  rw [for_run e1 (rngN n hn)]
  obtain ⟨s', w', e2, g', x6', rfl, rfl, h⟩ := forL_inv (fun d s1 w1 => (bindS (.n 6) d s1).bind fun s2 => rss F [bIn] s2 w1)
    (fun J s w => ∃ g x6, s = [net, .ll (tblD n g), .fr (.int (k : Int)), .fr (.int (n : Int)), rs', .fr (.int (i : Int)), x6, c] ∧ w = none ∧ ∀ x y, x < n → y < n → g x y = mid k i J f x y)
    (rngD n) 0 _ none (fun j d s w hd ⟨g1, y6, hs, hw, h1⟩ => by
      subst hs hw
      obtain ⟨hj, rfl⟩ := rngD_get hd
      rw [Nat.zero_add] at h1 ⊢
      have e := in_step F n k i j g1 hk hi hj net (.fr (.int (n : Int))) rs' c
      refine ⟨[net, .ll (tblD n (upd2 g1 i j (mn (g1 i j) (g1 i k + g1 k j)))), .fr (.int (k : Int)), .fr (.int (n : Int)), rs', .fr (.int (i : Int)), .fr (.int (j : Int)), c], none, ?_, _, _, rfl, rfl, mid_step hz hp hk hi hj h1⟩
      simp only [rss, rs, evM, evsM, evPs, evP, setPs, ev, evs, evo, evc, vwS, fzA, frz, fzG, fz_fr, fz_un, fz_l, fz_ll, fz_dt, vw_fr, vw_un, vw_l, vw_ll, vw_dt, Sl.asL, Sl.asLL, Sl.asT, List.map_cons, List.map_nil, Option.bind_some, Option.map_some, Option.bind_none, Option.map_none, List.getElem?_cons_zero, List.getElem?_cons_succ, List.getElem?_nil, List.set_cons_zero, List.set_cons_succ, List.set_nil, isSc, asI, asLs, asTu, isBl, rowAt, setRow, resD, optI, bindS, bindSs, bindT, bindTs, wipeE, List.length_cons, List.length_nil, List.contains_nil, List.contains_cons, Bool.or_false, Bool.false_or, Bool.or_true, Bool.true_or, Bool.and_true, Bool.true_and, Bool.and_false, Bool.false_and, Bool.not_true, Bool.not_false, Bool.false_eq_true, if_true, if_false, ↓reduceIte, beq_iff_eq, Nat.reduceBEq, Nat.reduceEqDiff, List.all_cons, List.all_nil, opD_add, opD_sub, opD_mul, opD_mod, opD_fdiv, opD_pow, cmpD_lt, cmpD_le, cmpD_gt, cmpD_ge, bltD_int, bltD_len, bltD_lenT, bltD_min2, bltD_max2, bltD_tuple, bltD_tupleT, Nat.zero_lt_succ, Nat.reduceLT, Nat.reduceAdd, Nat.lt_add_one, decide_true, decide_false, ne_eq, not_true_eq_false, not_false_eq_true, reduceCtorEq, Int.reduceNeg, e]) ⟨g, x6, rfl, rfl, hg⟩
  refine ⟨g', x6', e2, fun x y hx hy => ?_⟩
  rw [h x y hx hy, rngD_len]
  unfold mid
  by_cases c1 : x < i ∨ x = i
  · rw [if_pos (by omega), if_pos (by omega)]
  · rw [if_neg (by omega), if_neg (by omega)]
def bI : Sx := .forS (.n 5) .range (.fz []) [.var 3] [bJ]
theorem loop_i (F : Orc) (n k : Nat) (hn : n < 1000) (f : Nat → Nat → Int) (hz : f k k = 0) (hp : ∀ x y, x < n → y < n → 0 ≤ f x y) (hk : k < n) (net rs' c x5 x6 : Sl) :
    ∃ g' x5' x6', rs F bI [net, .ll (tblD n f), .fr (.int (k : Int)), .fr (.int (n : Int)), rs', x5, x6, c] none = some (.nx [net, .ll (tblD n g'), .fr (.int (k : Int)), .fr (.int (n : Int)), rs', x5', x6', c] none) ∧ ∀ x y, x < n → y < n → g' x y = stage k f x y := by
  have e1 : evsM F [.var 3] (.fz []) [net, .ll (tblD n f), .fr (.int (k : Int)), .fr (.int (n : Int)), rs', x5, x6, c] none = some ([.int (n : Int)], [net, .ll (tblD n f), .fr (.int (k : Int)), .fr (.int (n : Int)), rs', x5, x6, c], none) := by
    simp only [rss, rs, evM, evsM, evPs, evP, setPs, ev, evs, evo, evc, vwS, fzA, frz, fzG, fz_fr, fz_un, fz_l, fz_ll, fz_dt, vw_fr, vw_un, vw_l, vw_ll, vw_dt, Sl.asL, Sl.asLL, Sl.asT, List.map_cons, List.map_nil, Option.bind_some, Option.map_some, Option.bind_none, Option.map_none, List.getElem?_cons_zero, List.getElem?_cons_succ, List.getElem?_nil, List.set_cons_zero, List.set_cons_succ, List.set_nil, isSc, asI, asLs, asTu, isBl, rowAt, setRow, resD, optI, bindS, bindSs, bindT, bindTs, wipeE, List.length_cons, List.length_nil, List.contains_nil, List.contains_cons, Bool.or_false, Bool.false_or, Bool.or_true, Bool.true_or, Bool.and_true, Bool.true_and, Bool.and_false, Bool.false_and, Bool.not_true, Bool.not_false, Bool.false_eq_true, if_true, if_false, ↓reduceIte, beq_iff_eq, Nat.reduceBEq, Nat.reduceEqDiff, List.all_cons, List.all_nil, opD_add, opD_sub, opD_mul, opD_mod, opD_fdiv, opD_pow, cmpD_lt, cmpD_le, cmpD_gt, cmpD_ge, bltD_int, bltD_len, bltD_lenT, bltD_min2, bltD_max2, bltD_tuple, bltD_tupleT, Nat.zero_lt_succ, Nat.reduceLT, Nat.reduceAdd, Nat.lt_add_one, decide_true, decide_false, ne_eq, not_true_eq_false, not_false_eq_true, reduceCtorEq, Int.reduceNeg]
  unfold bI
  rw [for_run e1 (rngN n hn)]
  obtain ⟨s', w', e2, g', x5', x6', rfl, rfl, h⟩ := forL_inv (fun d s1 w1 => (bindS (.n 5) d s1).bind fun s2 => rss F [bJ] s2 w1)
    (fun J s w => ∃ g x5 x6, s = [net, .ll (tblD n g), .fr (.int (k : Int)), .fr (.int (n : Int)), rs', x5, x6, c] ∧ w = none ∧ ∀ x y, x < n → y < n → g x y = mid k J 0 f x y)
    (rngD n) 0 _ none (fun i d s w hd ⟨g1, y5, y6, hs, hw, h1⟩ => by
      subst hs hw
      obtain ⟨hi, rfl⟩ := rngD_get hd
      rw [Nat.zero_add] at h1 ⊢
      obtain ⟨g2, y6', e, h2⟩ := loop_j F n k i hn f g1 hz hp hk hi h1 net rs' c y6
      refine ⟨[net, .ll (tblD n g2), .fr (.int (k : Int)), .fr (.int (n : Int)), rs', .fr (.int (i : Int)), y6', c], none, ?_, _, _, _, rfl, rfl, h2⟩
      rw [show bindS (.n 5) (.int (i : Int)) [net, .ll (tblD n g1), .fr (.int (k : Int)), .fr (.int (n : Int)), rs', y5, y6, c] = some [net, .ll (tblD n g1), .fr (.int (k : Int)), .fr (.int (n : Int)), rs', .fr (.int (i : Int)), y6, c] from rfl, Option.bind_some, rss, e, Option.bind_some]
      dsimp only
      rw [rss]) ⟨f, x5, x6, rfl, rfl, fun x y hx hy => by unfold mid; rw [if_neg (by omega)]⟩
  refine ⟨g', x5', x6', e2, fun x y hx hy => ?_⟩
  rw [h x y hx hy, rngD_len]
  unfold mid
  rw [if_pos (by omega)]
theorem Tri.congr {n m : Nat} {f g : Nat → Nat → Int} (T : Tri n m f) (h : ∀ x y, x < n → y < n → g x y = f x y) : Tri n m g :=
  ⟨fun i hi => (h i i hi hi).trans (T.z i hi), fun i j hi hj => by rw [h i j hi hj]; exact T.p i j hi hj, fun k i j hk hkn hi hj => by rw [h i j hi hj, h i k hi hkn, h k j hkn hj]; exact T.t k i j hk hkn hi hj⟩
theorem Real.congr {rods : List Rod} {inf : Int} {n : Nat} {f g : Nat → Nat → Int} (T : Real rods inf n f) (h : ∀ x y, x < n → y < n → g x y = f x y) : Real rods inf n g := fun i j hi hj => by
  rw [h i j hi hj]
  exact T i j hi hj
def bK : Sx := .forS (.n 2) .range (.fz []) [.var 3] [bI]
/-- all middles -/
theorem loop_k (F : Orc) (n : Nat) (hn : n < 1000) (rods : List Rod) (hr : ∀ r ∈ rods, r.1 < n ∧ r.2.1 < n) (f : Nat → Nat → Int) (hT : Tri n 0 f) (hR : Real rods 9999 n f) (hl : ∀ r ∈ rods, f r.1 r.2.1 ≤ r.2.2 ∧ f r.2.1 r.1 ≤ r.2.2) (net rs' c m x5 x6 : Sl) :
    ∃ g' m' x5' x6', rs F bK [net, .ll (tblD n f), m, .fr (.int (n : Int)), rs', x5, x6, c] none = some (.nx [net, .ll (tblD n g'), m', .fr (.int (n : Int)), rs', x5', x6', c] none) ∧ Tri n n g' ∧ Real rods 9999 n g' ∧ ∀ r ∈ rods, g' r.1 r.2.1 ≤ r.2.2 ∧ g' r.2.1 r.1 ≤ r.2.2 := by
  have e1 : evsM F [.var 3] (.fz []) [net, .ll (tblD n f), m, .fr (.int (n : Int)), rs', x5, x6, c] none = some ([.int (n : Int)], [net, .ll (tblD n f), m, .fr (.int (n : Int)), rs', x5, x6, c], none) := by
    simp only [rss, rs, evM, evsM, evPs, evP, setPs, ev, evs, evo, evc, vwS, fzA, frz, fzG, fz_fr, fz_un, fz_l, fz_ll, fz_dt, vw_fr, vw_un, vw_l, vw_ll, vw_dt, Sl.asL, Sl.asLL, Sl.asT, List.map_cons, List.map_nil, Option.bind_some, Option.map_some, Option.bind_none, Option.map_none, List.getElem?_cons_zero, List.getElem?_cons_succ, List.getElem?_nil, List.set_cons_zero, List.set_cons_succ, List.set_nil, isSc, asI, asLs, asTu, isBl, rowAt, setRow, resD, optI, bindS, bindSs, bindT, bindTs, wipeE, List.length_cons, List.length_nil, List.contains_nil, List.contains_cons, Bool.or_false, Bool.false_or, Bool.or_true, Bool.true_or, Bool.and_true, Bool.true_and, Bool.and_false, Bool.false_and, Bool.not_true, Bool.not_false, Bool.false_eq_true, if_true, if_false, ↓reduceIte, beq_iff_eq, Nat.reduceBEq, Nat.reduceEqDiff, List.all_cons, List.all_nil, opD_add, opD_sub, opD_mul, opD_mod, opD_fdiv, opD_pow, cmpD_lt, cmpD_le, cmpD_gt, cmpD_ge, bltD_int, bltD_len, bltD_lenT, bltD_min2, bltD_max2, bltD_tuple, bltD_tupleT, Nat.zero_lt_succ, Nat.reduceLT, Nat.reduceAdd, Nat.lt_add_one, decide_true, decide_false, ne_eq, not_true_eq_false, not_false_eq_true, reduceCtorEq, Int.reduceNeg]
  unfold bK
  rw [for_run e1 (rngN n hn)]
  obtain ⟨s', w', e2, g', m', x5', x6', rfl, rfl, h1, h2, h3⟩ := forL_inv (fun d s1 w1 => (bindS (.n 2) d s1).bind fun s2 => rss F [bI] s2 w1)
    (fun J s w => ∃ g m x5 x6, s = [net, .ll (tblD n g), m, .fr (.int (n : Int)), rs', x5, x6, c] ∧ w = none ∧ Tri n J g ∧ Real rods 9999 n g ∧ ∀ r ∈ rods, g r.1 r.2.1 ≤ r.2.2 ∧ g r.2.1 r.1 ≤ r.2.2)
    (rngD n) 0 _ none (fun k d s w hd ⟨g1, m1, y5, y6, hs, hw, h1, h2, h3⟩ => by
      subst hs hw
      obtain ⟨hk, rfl⟩ := rngD_get hd
      rw [Nat.zero_add] at h1 ⊢
      obtain ⟨g2, y5', y6', e, h4⟩ := loop_i F n k hn g1 (h1.z k hk) h1.p hk net rs' c y5 y6
      refine ⟨[net, .ll (tblD n g2), .fr (.int (k : Int)), .fr (.int (n : Int)), rs', y5', y6', c], none, ?_, g2, _, _, _, rfl, rfl, (h1.next hk).congr h4, (h2.stage hk h1.p).congr h4, fun r hr' => ?_⟩
      · rw [show bindS (.n 2) (.int (k : Int)) [net, .ll (tblD n g1), m1, .fr (.int (n : Int)), rs', y5, y6, c] = some [net, .ll (tblD n g1), .fr (.int (k : Int)), .fr (.int (n : Int)), rs', y5, y6, c] from rfl, Option.bind_some, rss, e, Option.bind_some]
        dsimp only
        rw [rss]
      · obtain ⟨a1, a2⟩ := hr r hr'
        obtain ⟨b1, b2⟩ := h3 r hr'
        rw [h4 _ _ a1 a2, h4 _ _ a2 a1]
        unfold stage
        omega) ⟨f, m, x5, x6, rfl, rfl, hT, hR, hl⟩
  rw [rngD_len, Nat.zero_add] at h1
  exact ⟨g', m', x5', x6', e2, h1, h2, h3⟩
/-- the rods are put in -/
def pA : Sx := .put2 1 (.blt .min2 [.idx (.idx (.var 1) (.var 5)) (.var 6), .var 7]) (.var 5) (.var 6)
def pB : Sx := .put2 1 (.idx (.idx (.var 1) (.var 5)) (.var 6)) (.var 6) (.var 5)
theorem pA_step (F : Orc) (n a b : Nat) (l : Int) (g : Nat → Nat → Int) (ha : a < n) (hb : b < n) (net m n' rs' : Sl) :
    rs F pA [net, .ll (tblD n g), m, n', rs', .fr (.int (a : Int)), .fr (.int (b : Int)), .fr (.int l)] none = some (.nx [net, .ll (tblD n (upd2 g a b (mn (g a b) l))), m, n', rs', .fr (.int (a : Int)), .fr (.int (b : Int)), .fr (.int l)] none) := by
  unfold pA mn
  simp only [rss, rs, evM, evsM, evPs, evP, setPs, ev, evs, evo, evc, vwS, fzA, frz, fzG, fz_fr, fz_un, fz_l, fz_ll, fz_dt, vw_fr, vw_un, vw_l, vw_ll, vw_dt, Sl.asL, Sl.asLL, Sl.asT, List.map_cons, List.map_nil, Option.bind_some, Option.map_some, Option.bind_none, Option.map_none, List.getElem?_cons_zero, List.getElem?_cons_succ, List.getElem?_nil, List.set_cons_zero, List.set_cons_succ, List.set_nil, isSc, asI, asLs, asTu, isBl, rowAt, setRow, resD, optI, bindS, bindSs, bindT, bindTs, wipeE, List.length_cons, List.length_nil, List.contains_nil, List.contains_cons, Bool.or_false, Bool.false_or, Bool.or_true, Bool.true_or, Bool.and_true, Bool.true_and, Bool.and_false, Bool.false_and, Bool.not_true, Bool.not_false, Bool.false_eq_true, if_true, if_false, ↓reduceIte, beq_iff_eq, Nat.reduceBEq, Nat.reduceEqDiff, List.all_cons, List.all_nil, opD_add, opD_sub, opD_mul, opD_mod, opD_fdiv, opD_pow, cmpD_lt, cmpD_le, cmpD_gt, cmpD_ge, bltD_int, bltD_len, bltD_lenT, bltD_min2, bltD_max2, bltD_tuple, bltD_tupleT, Nat.zero_lt_succ, Nat.reduceLT, Nat.reduceAdd, Nat.lt_add_one, decide_true, decide_false, ne_eq, not_true_eq_false, not_false_eq_true, reduceCtorEq, Int.reduceNeg, idx_tbl n g ha, idx_row n (g a) hb, tblD_len, ixN_nat ha, tblD_get n g ha, rowD_len, ixN_nat hb, tblD_set n g _ ha]
theorem pB_step (F : Orc) (n a b : Nat) (l : Int) (g : Nat → Nat → Int) (ha : a < n) (hb : b < n) (net m n' rs' : Sl) :
    rs F pB [net, .ll (tblD n g), m, n', rs', .fr (.int (a : Int)), .fr (.int (b : Int)), .fr (.int l)] none = some (.nx [net, .ll (tblD n (upd2 g b a (g a b))), m, n', rs', .fr (.int (a : Int)), .fr (.int (b : Int)), .fr (.int l)] none) := by
  unfold pB
  simp only [rss, rs, evM, evsM, evPs, evP, setPs, ev, evs, evo, evc, vwS, fzA, frz, fzG, fz_fr, fz_un, fz_l, fz_ll, fz_dt, vw_fr, vw_un, vw_l, vw_ll, vw_dt, Sl.asL, Sl.asLL, Sl.asT, List.map_cons, List.map_nil, Option.bind_some, Option.map_some, Option.bind_none, Option.map_none, List.getElem?_cons_zero, List.getElem?_cons_succ, List.getElem?_nil, List.set_cons_zero, List.set_cons_succ, List.set_nil, isSc, asI, asLs, asTu, isBl, rowAt, setRow, resD, optI, bindS, bindSs, bindT, bindTs, wipeE, List.length_cons, List.length_nil, List.contains_nil, List.contains_cons, Bool.or_false, Bool.false_or, Bool.or_true, Bool.true_or, Bool.and_true, Bool.true_and, Bool.and_false, Bool.false_and, Bool.not_true, Bool.not_false, Bool.false_eq_true, if_true, if_false, ↓reduceIte, beq_iff_eq, Nat.reduceBEq, Nat.reduceEqDiff, List.all_cons, List.all_nil, opD_add, opD_sub, opD_mul, opD_mod, opD_fdiv, opD_pow, cmpD_lt, cmpD_le, cmpD_gt, cmpD_ge, bltD_int, bltD_len, bltD_lenT, bltD_min2, bltD_max2, bltD_tuple, bltD_tupleT, Nat.zero_lt_succ, Nat.reduceLT, Nat.reduceAdd, Nat.lt_add_one, decide_true, decide_false, ne_eq, not_true_eq_false, not_false_eq_true, reduceCtorEq, Int.reduceNeg, idx_tbl n g ha, idx_row n (g a) hb, tblD_len, ixN_nat hb, tblD_get n g hb, rowD_len, ixN_nat ha, tblD_set n g _ hb]
/-- one rod more in the table -/
def addRod (g : Nat → Nat → Int) (r : Rod) : Nat → Nat → Int := upd2 (upd2 g r.1 r.2.1 (mn (g r.1 r.2.1) r.2.2)) r.2.1 r.1 (upd2 g r.1 r.2.1 (mn (g r.1 r.2.1) r.2.2) r.1 r.2.1)
/-- what the table keeps while rods are put in: the first k of them stand -/
structure Put (n k : Nat) (rods : List Rod) (g : Nat → Nat → Int) : Prop where
  z : ∀ i, g i i = 0
  p : ∀ i j, 0 ≤ g i j
  s : ∀ i j, g i j = g j i
  r : ∀ i j, i < n → j < n → 9999 ≤ g i j ∨ Wk rods i j (g i j)
  l : ∀ x r, x < k → rods[x]? = some r → g r.1 r.2.1 ≤ r.2.2
theorem Put.next {n k : Nat} {rods : List Rod} {g : Nat → Nat → Int} (P : Put n k rods g) {r : Rod} (hr : rods[k]? = some r) (h1 : r.1 ≠ r.2.1) (h2 : 0 ≤ r.2.2) : Put n (k + 1) rods (addRod g r) := by
  have e : ∀ i j, addRod g r i j = if (i = r.1 ∧ j = r.2.1) ∨ (i = r.2.1 ∧ j = r.1) then mn (g r.1 r.2.1) r.2.2 else g i j := fun i j => by
    unfold addRod upd2
    by_cases c1 : i = r.2.1 ∧ j = r.1
    · rw [if_pos c1, if_pos ⟨rfl, rfl⟩, if_pos (.inr c1)]
    · rw [if_neg c1]
      by_cases c2 : i = r.1 ∧ j = r.2.1
      · rw [if_pos c2, if_pos (.inl c2)]
      · rw [if_neg c2, if_neg (fun z => z.elim c2 c1)]
  have hm := mn_min (g r.1 r.2.1) r.2.2
  have hp := P.p r.1 r.2.1
  refine ⟨fun i => ?_, fun i j => ?_, fun i j => ?_, fun i j hi hj => ?_, fun x r' hx hr' => ?_⟩
  · rw [e, if_neg (by omega)]
    exact P.z i
  · rw [e]
    split
    · omega
    · exact P.p i j
  · rw [e, e]
    by_cases c : (i = r.1 ∧ j = r.2.1) ∨ (i = r.2.1 ∧ j = r.1)
    · rw [if_pos c, if_pos (by omega)]
    · rw [if_neg c, if_neg (by omega)]
      exact P.s i j
  · rw [e]
    have hmem := List.mem_of_getElem? hr
    by_cases c : (i = r.1 ∧ j = r.2.1) ∨ (i = r.2.1 ∧ j = r.1)
    · rw [if_pos c]
      by_cases c2 : r.2.2 < g r.1 r.2.1
      · right
        rw [show mn (g r.1 r.2.1) r.2.2 = 0 + r.2.2 by omega]
        rcases c with ⟨rfl, rfl⟩ | ⟨rfl, rfl⟩
        · exact .snoc .nil (.inl hmem)
        · exact .snoc .nil (.inr hmem)
      · rw [show mn (g r.1 r.2.1) r.2.2 = g r.1 r.2.1 by omega]
        rcases c with ⟨rfl, rfl⟩ | ⟨rfl, rfl⟩
        · exact P.r _ _ hi hj
        · rw [P.s r.1 r.2.1]
          exact P.r _ _ hi hj
    · rw [if_neg c]
      exact P.r i j hi hj
  · rw [e]
    by_cases c : (r'.1 = r.1 ∧ r'.2.1 = r.2.1) ∨ (r'.1 = r.2.1 ∧ r'.2.1 = r.1)
    · rw [if_pos c]
      by_cases hk : x = k
      · subst hk
        rw [hr] at hr'
        cases hr'
        omega
      · have := P.l x r' (by omega) hr'
        have s1 := P.s r.1 r.2.1
        rcases c with ⟨c1, c2⟩ | ⟨c1, c2⟩
        · rw [c1, c2] at this; omega
        · rw [c1, c2] at this; omega
    · rw [if_neg c]
      by_cases hk : x = k
      · subst hk
        rw [hr] at hr'
        cases hr'
        exact absurd (.inl ⟨rfl, rfl⟩) c
      · exact P.l x r' (by omega) hr'
def bR : Sx := .forS (.t [.n 5, .n 6, .n 7]) .plain (.fz []) [.var 4] [pA, pB]
theorem loop_r (F : Orc) (n : Nat) (rods : List Rod) (hr : ∀ r ∈ rods, r.1 < n ∧ r.2.1 < n ∧ r.1 ≠ r.2.1 ∧ 0 ≤ r.2.2) (f : Nat → Nat → Int) (hP : Put n 0 rods f) (net m n' x5 x6 x7 : Sl) :
    ∃ g x5' x6' x7', rs F bR [net, .ll (tblD n f), m, n', .fr (.tup (rods.map rodD)), x5, x6, x7] none = some (.nx [net, .ll (tblD n g), m, n', .fr (.tup (rods.map rodD)), x5', x6', x7'] none) ∧ Put n rods.length rods g := by
  have e1 : evsM F [.var 4] (.fz []) [net, .ll (tblD n f), m, n', .fr (.tup (rods.map rodD)), x5, x6, x7] none = some ([.tup (rods.map rodD)], [net, .ll (tblD n f), m, n', .fr (.tup (rods.map rodD)), x5, x6, x7], none) := by
    simp only [rss, rs, evM, evsM, evPs, evP, setPs, ev, evs, evo, evc, vwS, fzA, frz, fzG, fz_fr, fz_un, fz_l, fz_ll, fz_dt, vw_fr, vw_un, vw_l, vw_ll, vw_dt, Sl.asL, Sl.asLL, Sl.asT, List.map_cons, List.map_nil, Option.bind_some, Option.map_some, Option.bind_none, Option.map_none, List.getElem?_cons_zero, List.getElem?_cons_succ, List.getElem?_nil, List.set_cons_zero, List.set_cons_succ, List.set_nil, isSc, asI, asLs, asTu, isBl, rowAt, setRow, resD, optI, bindS, bindSs, bindT, bindTs, wipeE, List.length_cons, List.length_nil, List.contains_nil, List.contains_cons, Bool.or_false, Bool.false_or, Bool.or_true, Bool.true_or, Bool.and_true, Bool.true_and, Bool.and_false, Bool.false_and, Bool.not_true, Bool.not_false, Bool.false_eq_true, if_true, if_false, ↓reduceIte, beq_iff_eq, Nat.reduceBEq, Nat.reduceEqDiff, List.all_cons, List.all_nil, opD_add, opD_sub, opD_mul, opD_mod, opD_fdiv, opD_pow, cmpD_lt, cmpD_le, cmpD_gt, cmpD_ge, bltD_int, bltD_len, bltD_lenT, bltD_min2, bltD_max2, bltD_tuple, bltD_tupleT, Nat.zero_lt_succ, Nat.reduceLT, Nat.reduceAdd, Nat.lt_add_one, decide_true, decide_false, ne_eq, not_true_eq_false, not_false_eq_true, reduceCtorEq, Int.reduceNeg]
  unfold bR
  rw [for_run e1 (its := rods.map rodD) rfl]
  obtain ⟨s', w', e2, g', x5', x6', x7', rfl, rfl, h1⟩ := forL_inv (fun d s1 w1 => (bindS (.t [.n 5, .n 6, .n 7]) d s1).bind fun s2 => rss F [pA, pB] s2 w1)
    (fun J s w => ∃ g x5 x6 x7, s = [net, .ll (tblD n g), m, n', .fr (.tup (rods.map rodD)), x5, x6, x7] ∧ w = none ∧ Put n J rods g)
    (rods.map rodD) 0 _ none (fun k d s w hd ⟨g1, y5, y6, y7, hs, hw, h1⟩ => by
      subst hs hw
      rw [List.getElem?_map] at hd
      obtain ⟨r, hk, rfl⟩ := Option.map_eq_some_iff.mp hd
      obtain ⟨a1, a2, a3, a4⟩ := hr r (List.mem_of_getElem? hk)
      rw [Nat.zero_add] at h1 ⊢
      refine ⟨[net, .ll (tblD n (addRod g1 r)), m, n', .fr (.tup (rods.map rodD)), .fr (.int (r.1 : Int)), .fr (.int (r.2.1 : Int)), .fr (.int r.2.2)], none, ?_, _, _, _, _, rfl, rfl, h1.next hk a3 a4⟩
      rw [show bindS (.t [.n 5, .n 6, .n 7]) (rodD r) [net, .ll (tblD n g1), m, n', .fr (.tup (rods.map rodD)), y5, y6, y7] = some [net, .ll (tblD n g1), m, n', .fr (.tup (rods.map rodD)), .fr (.int (r.1 : Int)), .fr (.int (r.2.1 : Int)), .fr (.int r.2.2)] from rfl, Option.bind_some, rss, pA_step F n r.1 r.2.1 r.2.2 g1 a1 a2, Option.bind_some]
      dsimp only
      rw [rss, pB_step F n r.1 r.2.1 r.2.2 _ a1 a2, Option.bind_some]
      dsimp only
      rw [rss]
      rfl) ⟨f, x5, x6, x7, rfl, rfl, hP⟩
  rw [List.length_map, Nat.zero_add] at h1
  exact ⟨g', x5', x6', x7', e2, h1⟩
theorem put0 (n : Nat) (rods : List Rod) : Put n 0 rods (f0 9999) := by
  refine ⟨fun i => if_pos rfl, fun i j => ?_, fun i j => ?_, fun i j hi hj => ?_, fun x r hx => by omega⟩
  · unfold f0; split <;> omega
  · unfold f0
    by_cases c : i = j
    · rw [if_pos c, if_pos c.symm]
    · rw [if_neg c, if_neg (fun z => c z.symm)]
  · unfold f0
    by_cases c : i = j
    · subst c; rw [if_pos rfl]; exact .inr .nil
    · rw [if_neg c]; exact .inl (Int.le_refl _)
theorem Wk.rev {rods : List Rod} {i j : Nat} {c : Int} (h : Wk rods i j c) : Wk rods j i c := by
  induction h with
  | nil => exact .nil
  | @snoc p j c l _ hr ih =>
    have h1 : Wk rods j p (0 + l) := .snoc .nil hr.symm
    have := h1.append ih
    rw [show 0 + l + c = c + l by omega] at this
    exact this
theorem NetOk.walk {n : Nat} {rods : List Rod} (N : NetOk n rods) : ∀ (m p : Nat), p ≤ m → p < n → ∃ c, Wk rods 0 p c ∧ c ≤ 9 * p
  | 0, p, h, _ => by
    have : p = 0 := by omega
    subst this
    exact ⟨0, .nil, by omega⟩
  | m + 1, p, h, hp => by
    by_cases e : p = 0
    · subst e; exact ⟨0, .nil, by omega⟩
    · obtain ⟨t, l, h1, h2⟩ := N.con p (by omega) hp
      obtain ⟨c, h3, h4⟩ := NetOk.walk N m t (by omega) (by omega)
      have h5 : l ≤ 9 := (N.rod _ h2).2.2.2
      exact ⟨c + l, .snoc h3 (.inl h2), by omega⟩
/-- table_of's table is the one of distances -/
theorem dist_end {n : Nat} {rods : List Rod} (N : NetOk n rods) {f : Nat → Nat → Int} (T : Tri n n f) (R : Real rods 9999 n f) (hl : ∀ r ∈ rods, f r.1 r.2.1 ≤ r.2.2 ∧ f r.2.1 r.1 ≤ r.2.2) : IsDist n rods f := by
  have hn : ∀ r ∈ rods, r.1 < n ∧ r.2.1 < n := fun r hr => by
    obtain ⟨h1, h2, _, _⟩ := N.rod r hr
    exact ⟨by omega, h2⟩
  have he : ∀ r ∈ rods, ∀ i, i < n → f i r.2.1 ≤ f i r.1 + r.2.2 ∧ f i r.1 ≤ f i r.2.1 + r.2.2 := fun r hr i hi => by
    obtain ⟨a1, a2⟩ := hn r hr
    obtain ⟨b1, b2⟩ := hl r hr
    have t1 := T.t r.1 i r.2.1 a1 a1 hi a2
    have t2 := T.t r.2.1 i r.1 a2 a2 hi a1
    omega
  refine dist_of hn (fun r hr => (N.rod r hr).2.2.1) T.z T.p he R fun i j hi hj => ?_
  have h8 := N.hi
  have h1 := N.lo
  obtain ⟨c, w1, b1⟩ := N.walk i i (Nat.le_refl _) hi
  obtain ⟨d, w2, b2⟩ := N.walk j j (Nat.le_refl _) hj
  have q1 := (le_walk hn T.z he hi w1.rev).1
  have q2 := (le_walk hn T.z he (show 0 < n by omega) w2).1
  have t := T.t 0 i j (by omega) (by omega) hi hj
  omega
theorem bTable_eq : bTableOf = [.unp (.t [.n 3, .n 4]) (.fz []) (.var 0), .new2 1 (.fz []) (.comp [5] (.n 5) .range [.var 3] none (.comp [6] (.n 6) .range [.var 3] none (.ite (.cmp .Eq (.var 5) (.var 6)) (.int 0) (.int 9999)))), bR, bK, .ret (.var 1)] := rfl
theorem table_run (F : Orc) {n : Nat} {rods : List Rod} (N : NetOk n rods) : ∃ f, (rss F bTableOf [.fr (netD n rods), .un, .un, .un, .un, .un, .un, .un] none).bind resD = some (tblL n f, none) ∧ IsDist n rods f := by
  have h8 := N.hi
  have hn : n < 1000 := by omega
  obtain ⟨g, x5, x6, x7, e1, P⟩ := loop_r F n rods (fun r hr => by
    obtain ⟨h1, h2, h3, h4⟩ := N.rod r hr
    exact ⟨by omega, h2, by omega, by omega⟩) (f0 9999) (put0 n rods) (.fr (netD n rods)) .un (.fr (.int (n : Int))) .un .un .un
  obtain ⟨f, m', y5, y6, e2, T, R, hl⟩ := loop_k F n hn rods (fun r hr => by
    obtain ⟨h1, h2, h3, h4⟩ := N.rod r hr
    exact ⟨by omega, h2⟩) g ⟨fun i _ => P.z i, fun i j _ _ => P.p i j, fun k i j hk => by omega⟩ P.r (fun r hr => by
      obtain ⟨x, hx, ex⟩ := List.mem_iff_getElem.mp hr
      have := P.l x r hx (by rw [List.getElem?_eq_getElem hx, ex])
      exact ⟨this, by rw [P.s]; exact this⟩) (.fr (netD n rods)) (.fr (.tup (rods.map rodD))) x7 .un x5 x6
  refine ⟨f, ?_, dist_end N T R hl⟩
  rw [bTable_eq, rss]
  rw [show rs F (.unp (.t [.n 3, .n 4]) (.fz []) (.var 0)) [.fr (netD n rods), .un, .un, .un, .un, .un, .un, .un] none = some (.nx [.fr (netD n rods), .un, .un, .fr (.int (n : Int)), .fr (.tup (rods.map rodD)), .un, .un, .un] none) from rfl, Option.bind_some]
  dsimp only
  rw [rss, new_tbl F n hn, Option.bind_some]
  dsimp only
  rw [rss, e1, Option.bind_some]
  dsimp only
  rw [rss, e2, Option.bind_some]
  dsimp only
  rw [rss]
  rfl
end Lt

set_option Elab.async false
set_option linter.all false
set_option maxRecDepth 100000
set_option maxHeartbeats 4000000
/-! LtRa: plain Lean about the interpreter: one rule for each form. -/
namespace Lt
open PySem PySem.Spec PyProof.Rows L2
section
variable {F : Orc} {ρ : Env} {w w1 w2 w3 w4 : Option W}
theorem ev_var {i : Nat} {d : D} (h : ρ[i]? = some (some d)) : ev F (.var i) ρ w = some (d, w) := by rw [ev, h]
theorem ev_non : ev F .non ρ w = some (.non, w) := by rw [ev]
theorem ev_bl {b : Bool} : ev F (.bl b) ρ w = some (.bl b, w) := by rw [ev]
theorem ev_int {i : Int} : ev F (.int i) ρ w = some (.int i, w) := by rw [ev]
theorem ev_str {i : PySem.Str} : ev F (.str i) ρ w = some (.str i, w) := by rw [ev]
theorem ev_glo {x : PySem.Str} {i : Int} : ev F (.glo x i) ρ w = some (.int i, w) := by rw [ev]
theorem ev_bin {op : Operator} {a b : E} {x y z : D} (h1 : ev F a ρ w = some (x, w1)) (h2 : ev F b ρ w1 = some (y, w2)) (h3 : opD op x y = some z) : ev F (.bin op a b) ρ w = some (z, w2) := by
  rw [ev, h1, Option.bind_some, h2, Option.bind_some, h3]; rfl
theorem ev_neg {a : E} {i : Int} (h1 : ev F a ρ w = some (.int i, w1)) : ev F (.neg a) ρ w = some (.int (-i), w1) := by
  rw [ev, h1, Option.bind_some]
theorem ev_cmp {op : CmpOp} {a b : E} {x y : D} {t : Bool} (h1 : ev F a ρ w = some (x, w1)) (h2 : ev F b ρ w1 = some (y, w2)) (h3 : cmpD op x y = some t) : ev F (.cmp op a b) ρ w = some (.bl t, w2) := by
  rw [ev, h1, Option.bind_some, h2, Option.bind_some, h3]; rfl
theorem ev_chain {o1 o2 : CmpOp} {a b c : E} {x y z : D} {t u : Bool} (h1 : ev F a ρ w = some (x, w)) (h2 : ev F b ρ w = some (y, w)) (h3 : cmpD o1 x y = some t) (h4 : t = true → ev F c ρ w = some (z, w)) (h5 : t = true → cmpD o2 y z = some u) : ev F (.chain o1 o2 a b c) ρ w = some (.bl (t && u), w) := by
  rw [ev, h1, Option.bind_some, h2, Option.bind_some, h3, Option.bind_some]
  cases t with
  | true => rw [if_pos rfl, h4 rfl, Option.bind_some, h5 rfl]; rfl
  | false => rfl
theorem ev_chain3 {o1 o2 o3 : CmpOp} {a b c d : E} {x y z v : D} {t u r : Bool} (h1 : ev F a ρ w = some (x, w)) (h2 : ev F b ρ w = some (y, w)) (h3 : cmpD o1 x y = some t) (h4 : t = true → ev F c ρ w = some (z, w)) (h5 : t = true → cmpD o2 y z = some u) (h6 : t = true → u = true → ev F d ρ w = some (v, w)) (h7 : t = true → u = true → cmpD o3 z v = some r) : ev F (.chain3 o1 o2 o3 a b c d) ρ w = some (.bl (t && (u && r)), w) := by
  rw [ev, h1, Option.bind_some, h2, Option.bind_some, h3, Option.bind_some]
  cases t with
  | true =>
    rw [if_pos rfl, h4 rfl, Option.bind_some, h5 rfl, Option.bind_some]
    cases u with
    | true => rw [if_pos rfl, h6 rfl rfl, Option.bind_some, h7 rfl rfl]; rfl
    | false => rfl
  | false => rfl
theorem ev_and {a b : E} {t u : Bool} (h1 : ev F a ρ w = some (.bl t, w)) (h2 : t = true → ev F b ρ w = some (.bl u, w)) : ev F (.and a b) ρ w = some (.bl (t && u), w) := by
  rw [ev, h1, Option.bind_some]
  cases t with
  | true => exact h2 rfl
  | false => rfl
theorem ev_or {a b : E} {t u : Bool} (h1 : ev F a ρ w = some (.bl t, w)) (h2 : t = false → ev F b ρ w = some (.bl u, w)) : ev F (.or a b) ρ w = some (.bl (t || u), w) := by
  rw [ev, h1, Option.bind_some]
  cases t with
  | true => rfl
  | false => exact h2 rfl
theorem ev_not {a : E} {t : Bool} (h1 : ev F a ρ w = some (.bl t, w1)) : ev F (.not a) ρ w = some (.bl (!t), w1) := by
  rw [ev, h1, Option.bind_some]; rfl
theorem ev_ite {c a b : E} {t : Bool} {x y : D} (h1 : ev F c ρ w = some (.bl t, w)) (h2 : t = true → ev F a ρ w = some (x, w)) (h3 : t = false → ev F b ρ w = some (y, w)) : ev F (.ite c a b) ρ w = some (if t then x else y, w) := by
  rw [ev, h1, Option.bind_some]
  cases t with
  | true => exact h2 rfl
  | false => exact h3 rfl
theorem ev_iteI {c a b : E} {t : Bool} {x y : Int} (h1 : ev F c ρ w = some (.bl t, w)) (h2 : t = true → ev F a ρ w = some (.int x, w)) (h3 : t = false → ev F b ρ w = some (.int y, w)) : ev F (.ite c a b) ρ w = some (.int (if t then x else y), w) := by
  rw [ev, h1, Option.bind_some]
  cases t with
  | true => exact h2 rfl
  | false => exact h3 rfl
theorem ev_iteL {c a b : E} {t : Bool} {x y : List D} (h1 : ev F c ρ w = some (.bl t, w)) (h2 : t = true → ev F a ρ w = some (.lst x, w)) (h3 : t = false → ev F b ρ w = some (.lst y, w)) : ev F (.ite c a b) ρ w = some (.lst (if t then x else y), w) := by
  rw [ev, h1, Option.bind_some]
  cases t with
  | true => exact h2 rfl
  | false => exact h3 rfl
theorem ev_ite_t {c a b : E} {r : D × Option W} (h1 : ev F c ρ w = some (.bl true, w1)) (h2 : ev F a ρ w1 = some r) : ev F (.ite c a b) ρ w = some r := by
  rw [ev, h1, Option.bind_some]; exact h2
theorem ev_ite_f {c a b : E} {r : D × Option W} (h1 : ev F c ρ w = some (.bl false, w1)) (h2 : ev F b ρ w1 = some r) : ev F (.ite c a b) ρ w = some r := by
  rw [ev, h1, Option.bind_some]; exact h2
theorem ea_nil : evs F [] ρ w = some ([], w) := by rw [evs]
theorem ea_cons {e : E} {es : List E} {d : D} {ds : List D} (h1 : ev F e ρ w = some (d, w1)) (h2 : evs F es ρ w1 = some (ds, w2)) : evs F (e :: es) ρ w = some (d :: ds, w2) := by
  rw [evs, h1, Option.bind_some, h2]; rfl
theorem ev_tup {es : List E} {ds : List D} (h1 : evs F es ρ w = some (ds, w1)) (h2 : ds.length < 60000) : ev F (.tup es) ρ w = some (.tup ds, w1) := by
  rw [ev, h1, Option.bind_some, if_pos (okLen_small h2)]
theorem ev_lst {es : List E} {ds : List D} (h1 : evs F es ρ w = some (ds, w1)) (h2 : ds.length < 60000) : ev F (.lst es) ρ w = some (.lst ds, w1) := by
  rw [ev, h1, Option.bind_some, if_pos (okLen_small h2)]
theorem ev_idx {a b : E} {x y z : D} (h1 : ev F a ρ w = some (x, w1)) (h2 : ev F b ρ w1 = some (y, w2)) (h3 : idxD x y = some z) : ev F (.idx a b) ρ w = some (z, w2) := by
  rw [ev, h1, Option.bind_some, h2, Option.bind_some, h3]; rfl
theorem eo_none : evo F none ρ w = some (none, w) := by rw [evo]
theorem eo_some {e : E} {d : D} (h : ev F e ρ w = some (d, w1)) : evo F (some e) ρ w = some (some d, w1) := by rw [evo, h]; rfl
theorem ev_slice {a : E} {lo hi : Option E} {x z : D} {l h : Option D} {i j : Option Int} (h1 : ev F a ρ w = some (x, w1)) (h2 : evo F lo ρ w1 = some (l, w2)) (h3 : evo F hi ρ w2 = some (h, w3)) (h4 : optI l = some i) (h5 : optI h = some j) (h6 : sliceD x i j = some z) : ev F (.slice a lo hi) ρ w = some (z, w3) := by
  rw [ev, h1, Option.bind_some, h2, Option.bind_some, h3, Option.bind_some]
  dsimp only
  rw [h4, Option.bind_some, h5, Option.bind_some, h6]; rfl
theorem ev_rev {a : E} {x z : D} (h1 : ev F a ρ w = some (x, w1)) (h2 : revD x = some z) : ev F (.rev a) ρ w = some (z, w1) := by
  rw [ev, h1, Option.bind_some, h2]; rfl
theorem ev_call {f : PySem.Str} {es : List E} {ds : List D} {d : D} {w' : Option W} (h1 : evs F es ρ w = some (ds, w1)) (h2 : F f false ds none = some (d, w')) : ev F (.call f es) ρ w = some (d, w1) := by
  rw [ev, h1, Option.bind_some, h2]; rfl
theorem ev_callR {f : PySem.Str} {es : List E} {ds : List D} {z : W} {d : D} {w2 : Option W} (h1 : evs F es ρ w = some (ds, some z)) (hw : w ≠ none) (h2 : F f true ds (some z) = some (d, w2)) : ev F (.callR f es) ρ w = some (d, w2) := by
  cases w with
  | none => exact absurd rfl hw
  | some w => rw [ev, Option.bind_some, h1, Option.bind_some]; exact h2
theorem ev_blt {b : Bi} {es : List E} {ds : List D} {d : D} (h1 : evs F es ρ w = some (ds, w1)) (h2 : bltD b ds = some d) : ev F (.blt b es) ρ w = some (d, w1) := by
  rw [ev, h1, Option.bind_some, h2]; rfl
theorem ev_isi {a : E} {t : Ty} {x : D} (h1 : ev F a ρ w = some (x, w1)) : ev F (.isi a t) ρ w = some (.bl (isiD x t), w1) := by
  rw [ev, h1, Option.bind_some]
theorem ev_isi2 {a : E} {t u : Ty} {x : D} (h1 : ev F a ρ w = some (x, w1)) : ev F (.isi2 a t u) ρ w = some (.bl (isiD x t || isiD x u), w1) := by
  rw [ev, h1, Option.bind_some]
theorem ec_none : evc F none ρ w = some (true, w) := by rw [evc]
theorem ec_some {e : E} {t : Bool} (h : ev F e ρ w = some (.bl t, w1)) : evc F (some e) ρ w = some (t, w1) := by
  rw [evc, h, Option.bind_some]; rfl
/-! ### comprehensions that draw nothing -/
theorem compL_gen {α : Type} (enc : α → D) (f : D → Option W → Option (Option D × Option W)) (g : α → Option D) (w : Option W) : ∀ (l : List α), (∀ a ∈ l, f (enc a) w = some (g a, w)) → compL f (l.map enc) w = some (l.filterMap g, w)
  | [], _ => rfl
  | a :: l, h => by
    have e := compL_gen enc f g w l fun x hx => h x (by simp [hx])
    simp only [List.map_cons, compL, h a (by simp), e, Option.bind_some, Option.map_some]
    cases q : g a with
    | none => rw [List.filterMap_cons_none q]
    | some y => rw [List.filterMap_cons_some q]
theorem filterMap_ite {α β : Type} (p : α → Bool) (g : α → β) : ∀ l : List α, (l.filterMap fun a => if p a then some (g a) else none) = (l.filter p).map g
  | [] => rfl
  | a :: l => by
    cases h : p a with
    | true => rw [List.filterMap_cons_some (b := g a) (by rw [h]; rfl), List.filter_cons_of_pos h, List.map_cons, filterMap_ite p g l]
    | false => rw [List.filterMap_cons_none (by rw [h]; rfl), List.filter_cons_of_neg (by rw [h]; decide), filterMap_ite p g l]
/-- any walk, with a test -/
theorem ev_comp {α : Type} {own : List Nat} {tg : Tg} {ik : IK} {es : List E} {cond : Option E} {elt : E} {ds : List D} (l : List α) (enc : α → D) {p : α → Bool} {g : α → D} (h1 : evs F es ρ w = some (ds, w)) (h2 : itemsD ik ds = some (l.map enc))
    (h3 : ∀ a ∈ l, ∃ ρ1, bindT tg (enc a) (wipeE ρ own) = some ρ1 ∧ ∃ t, evc F cond ρ1 w = some (t, w) ∧ t = p a ∧ ∃ d, (t = true → ev F elt ρ1 w = some (d, w)) ∧ d = g a) (h4 : l.length < 60000) :
    ev F (.comp own tg ik es cond elt) ρ w = some (.lst ((l.filter p).map g), w) := by
  refine comp_run h1 h2 (r := (l.filter p).map g) (w1 := w) ?_ ?_
  · rw [← filterMap_ite]
    refine compL_gen enc _ _ w l fun a ha => ?_
    obtain ⟨ρ1, e1, t, e2, e3, d, e4, e5⟩ := h3 a ha
    unfold turnF
    rw [e1, Option.bind_some, e2, Option.bind_some]
    dsimp only
    rw [← e3]
    cases t with
    | true => rw [if_pos rfl, e4 rfl, if_pos rfl, e5]; rfl
    | false => rfl
  · rw [List.length_map]
    exact Nat.lt_of_le_of_lt (List.length_filter_le _ _) h4
/-- without a test -/
theorem ev_compA {α : Type} {own : List Nat} {tg : Tg} {ik : IK} {es : List E} {elt : E} {ds : List D} (l : List α) (enc : α → D) {g : α → D} (h1 : evs F es ρ w = some (ds, w)) (h2 : itemsD ik ds = some (l.map enc))
    (h3 : ∀ a ∈ l, ∃ ρ1, bindT tg (enc a) (wipeE ρ own) = some ρ1 ∧ ∃ d, ev F elt ρ1 w = some (d, w) ∧ d = g a) (h4 : l.length < 60000) :
    ev F (.comp own tg ik es none elt) ρ w = some (.lst (l.map g), w) := by
  have := ev_comp (p := fun _ => true) (g := g) l enc (cond := none) (elt := elt) h1 h2 (fun a ha => by
    obtain ⟨ρ1, e1, d, e2, e3⟩ := h3 a ha
    exact ⟨ρ1, e1, true, ec_none, rfl, d, fun _ => e2, e3⟩) h4
  rw [this, List.filter_eq_self.mpr fun _ _ => rfl]
def natD (k : Nat) : D := .int (k : Int)
theorem rngI (n : Nat) (h : n < 60000) : itemsD .range [.int (n : Int)] = some ((List.range n).map natD) := by
  simp only [itemsD]
  rw [if_pos (by simp only [Bool.and_eq_true, decide_eq_true_eq]; omega)]
  congr 1
  rw [Int.toNat_natCast]
  refine List.map_congr_left fun k _ => ?_
  rw [Int.zero_add]; rfl
theorem rngI2 (a b : Nat) (ha : a < 60000) (hb : b < 60000) : itemsD .range [.int (a : Int), .int (b : Int)] = some ((List.range' a (b - a)).map natD) := by
  simp only [itemsD]
  rw [if_pos (by simp only [Bool.and_eq_true, decide_eq_true_eq]; omega)]
  congr 1
  rw [List.range'_eq_map_range, List.map_map, show ((b : Int) - (a : Int)).toNat = b - a by omega]
  refine List.map_congr_left fun k _ => ?_
  show D.int _ = D.int _
  congr 1
/-- over a range, with a test -/
theorem ev_compR {own : List Nat} {tg : Tg} {es : List E} {cond : Option E} {elt : E} {n : Nat} {p : Nat → Bool} {g : Nat → D} (h1 : evs F es ρ w = some ([.int (n : Int)], w)) (h2 : n < 60000)
    (h3 : ∀ a, a < n → ∃ ρ1, bindT tg (.int (a : Int)) (wipeE ρ own) = some ρ1 ∧ ∃ t, evc F cond ρ1 w = some (t, w) ∧ t = p a ∧ ∃ d, (t = true → ev F elt ρ1 w = some (d, w)) ∧ d = g a) :
    ev F (.comp own tg .range es cond elt) ρ w = some (.lst (((List.range n).filter p).map g), w) :=
  ev_comp (List.range n) natD h1 (rngI n h2) (fun a ha => h3 a (List.mem_range.mp ha)) (by rw [List.length_range]; exact h2)
theorem ev_compRA {own : List Nat} {tg : Tg} {es : List E} {elt : E} {n : Nat} {g : Nat → D} (h1 : evs F es ρ w = some ([.int (n : Int)], w)) (h2 : n < 60000)
    (h3 : ∀ a, a < n → ∃ ρ1, bindT tg (.int (a : Int)) (wipeE ρ own) = some ρ1 ∧ ∃ d, ev F elt ρ1 w = some (d, w) ∧ d = g a) :
    ev F (.comp own tg .range es none elt) ρ w = some (.lst ((List.range n).map g), w) :=
  ev_compA (List.range n) natD h1 (rngI n h2) (fun a ha => h3 a (List.mem_range.mp ha)) (by rw [List.length_range]; exact h2)
/-- over a list or tuple -/
theorem ev_compP {own : List Nat} {tg : Tg} {e : E} {cond : Option E} {elt : E} {α : Type} {l : List α} {enc : α → D} {d : D} {p : α → Bool} {g : α → D} (h1 : ev F e ρ w = some (d, w)) (h2 : seqD d = some (l.map enc)) (h4 : l.length < 60000)
    (h3 : ∀ a ∈ l, ∃ ρ1, bindT tg (enc a) (wipeE ρ own) = some ρ1 ∧ ∃ t, evc F cond ρ1 w = some (t, w) ∧ t = p a ∧ ∃ d, (t = true → ev F elt ρ1 w = some (d, w)) ∧ d = g a) :
    ev F (.comp own tg .plain [e] cond elt) ρ w = some (.lst ((l.filter p).map g), w) :=
  ev_comp l enc (ea_cons h1 ea_nil) h2 h3 h4
theorem ev_compPA {own : List Nat} {tg : Tg} {e : E} {elt : E} {α : Type} {l : List α} {enc : α → D} {d : D} {g : α → D} (h1 : ev F e ρ w = some (d, w)) (h2 : seqD d = some (l.map enc)) (h4 : l.length < 60000)
    (h3 : ∀ a ∈ l, ∃ ρ1, bindT tg (enc a) (wipeE ρ own) = some ρ1 ∧ ∃ d, ev F elt ρ1 w = some (d, w) ∧ d = g a) :
    ev F (.comp own tg .plain [e] none elt) ρ w = some (.lst (l.map g), w) :=
  ev_compA l enc (ea_cons h1 ea_nil) h2 h3 h4
end
/-! ### statements -/
section
variable {F : Orc} {w w1 w2 w3 : Option W} {s s1 s2 : Sls} {r : Res} {rest : List Sx}
theorem em_pk {m : E} {d : D} (h : ev F m (vwS (fzA s)) w = some (d, w1)) (h2 : isSc d = true) : evM F m .pk s w = some (d, s, w1) := by
  rw [evM, h, Option.bind_some]; exact if_pos h2
theorem em_0 {m : E} {d : D} (h : ev F m (vwS s) w = some (d, w1)) : evM F m (.fz []) s w = some (d, s, w1) := by
  have e : frz [] s = s := by
    unfold frz
    have : ∀ (s : Sls) (k : Nat), fzG (fun i => List.contains [] i) k s = s := by
      intro s
      induction s with
      | nil => intro _; rfl
      | cons a s ih => intro k; rw [fzG, ih]; rfl
    exact this s 0
  rw [evM, e, h]; rfl
theorem em_fz {m : E} {d : D} {js : List Nat} (h : ev F m (vwS (frz js s)) w = some (d, w1)) : evM F m (.fz js) s w = some (d, frz js s, w1) := by
  rw [evM, h]; rfl
theorem em_al {m : E} {d : D} (h : ev F m (vwS (fzA s)) w = some (d, w1)) : evM F m .al s w = some (d, fzA s, w1) := by
  rw [evM, h]; rfl
theorem es_pk {m : List E} {d : List D} (h : evs F m (vwS (fzA s)) w = some (d, w1)) (h2 : d.all isSc = true) : evsM F m .pk s w = some (d, s, w1) := by
  rw [evsM, h, Option.bind_some]; exact if_pos h2
theorem frz_nil : ∀ s : Sls, frz [] s = s := by
  have : ∀ (s : Sls) (k : Nat), fzG (fun i => List.contains [] i) k s = s := by
    intro s
    induction s with
    | nil => intro _; rfl
    | cons a s ih => intro k; rw [fzG, ih]; rfl
  exact fun s => this s 0
theorem es_0 {m : List E} {d : List D} (h : evs F m (vwS s) w = some (d, w1)) : evsM F m (.fz []) s w = some (d, s, w1) := by
  rw [evsM, frz_nil, h]; rfl
theorem es_fz {m : List E} {d : List D} {js : List Nat} (h : evs F m (vwS (frz js s)) w = some (d, w1)) : evsM F m (.fz js) s w = some (d, frz js s, w1) := by
  rw [evsM, h]; rfl
theorem st_nil : rss F [] s w = some (.nx s w) := by rw [rss]
theorem st_cons {x : Sx} (h : rs F x s w = some (.nx s1 w1)) (hr : rss F rest s1 w1 = some r) : rss F (x :: rest) s w = some r := by
  rw [rss, h, Option.bind_some]; exact hr
theorem st_set {i : Nat} {md : Md} {m : E} {d : D} (h : evM F m md s w = some (d, s1, w1)) (h2 : s1.set i (.fr d) = s2) (hr : rss F rest s2 w1 = some r) : rss F (.set i md m :: rest) s w = some r :=
  st_cons (by rw [rs, h, ← h2]; rfl) hr
theorem st_new1 {i : Nat} {md : Md} {m : E} {d : List D} (h : evM F m md s w = some (.lst d, s1, w1)) (h2 : s1.set i (.l d) = s2) (hr : rss F rest s2 w1 = some r) : rss F (.new1 i md m :: rest) s w = some r :=
  st_cons (by rw [rs, h, ← h2]; rfl) hr
theorem st_new2 {i : Nat} {md : Md} {m : E} {d : List D} {dss : List (List D)} (h : evM F m md s w = some (.lst d, s1, w1)) (h1 : d = dss.map D.lst) (h2 : s1.set i (.ll dss) = s2) (hr : rss F rest s2 w1 = some r) : rss F (.new2 i md m :: rest) s w = some r :=
  st_cons (by rw [rs, h, Option.bind_some]; show (lstsD d).map _ = _; rw [h1, lstsD_tbl, ← h2]; rfl) hr
theorem st_newD {i : Nat} (h2 : s.set i (.dt []) = s2) (hr : rss F rest s2 w = some r) : rss F (.newD i :: rest) s w = some r :=
  st_cons (by rw [rs, ← h2]) hr
theorem st_unp {tg : Tg} {md : Md} {m : E} {d : D} (h : evM F m md s w = some (d, s1, w1)) (h2 : bindS tg d s1 = some s2) (hr : rss F rest s2 w1 = some r) : rss F (.unp tg md m :: rest) s w = some r :=
  st_cons (by rw [rs, h, Option.bind_some]; dsimp only; rw [h2]; rfl) hr
theorem ep_fr {i : Nat} {md : Md} {m : E} {d : D} (h : evM F m md s w = some (d, s1, w1)) : evP F ⟨i, .fr, md, m⟩ s w = some (.fr d, s1, w1) := by
  unfold evP; dsimp only; rw [h]; rfl
theorem ep_l {i : Nat} {md : Md} {m : E} {d : List D} (h : evM F m md s w = some (.lst d, s1, w1)) : evP F ⟨i, .l, md, m⟩ s w = some (.l d, s1, w1) := by
  unfold evP; dsimp only; rw [h]; rfl
theorem ep_d {i : Nat} {md : Md} {m : E} : evP F ⟨i, .d, md, m⟩ s w = some (.dt [], s, w) := rfl
theorem eps_nil : evPs F [] s w = some ([], s, w) := rfl
theorem eps_cons {p : PM} {ps : List PM} {sl : Sl} {sls : List Sl} (h1 : evP F p s w = some (sl, s1, w1)) (h2 : evPs F ps s1 w1 = some (sls, s2, w2)) : evPs F (p :: ps) s w = some (sl :: sls, s2, w2) := by
  unfold evPs; rw [h1, Option.bind_some]; dsimp only; rw [h2]; rfl
theorem st_par {ps : List PM} {sls : List Sl} (h : evPs F ps s w = some (sls, s1, w1)) (h2 : setPs ps sls s1 = s2) (hr : rss F rest s2 w1 = some r) : rss F (.par ps :: rest) s w = some r :=
  st_cons (by rw [rs, h, ← h2]; rfl) hr
theorem st_aug {i : Nat} {op : Operator} {m : E} {a b c : Int} (h0 : s[i]? = some (.fr (.int a))) (h : evM F m .pk s w = some (.int b, s1, w1)) (h1 : augI op a b = some c) (h2 : s1.set i (.fr (.int c)) = s2) (hr : rss F rest s2 w1 = some r) : rss F (.aug i op m :: rest) s w = some r :=
  st_cons (by rw [rs, h0, Option.bind_some]; show Option.bind (some _) _ = _; rw [Option.bind_some]; show Option.bind (some a) _ = _; rw [Option.bind_some, h, Option.bind_some]; show Option.bind (some b) _ = _; rw [Option.bind_some, h1, ← h2]; rfl) hr
theorem st_app {i : Nat} {md : Md} {m : E} {d : D} {ds : List D} (h : evM F m md s w = some (d, s1, w1)) (h0 : s1[i]? = some (.l ds)) (hl : ds.length < 60000) (h2 : s1.set i (.l (ds ++ [d])) = s2) (hr : rss F rest s2 w1 = some r) : rss F (.app i md m :: rest) s w = some r :=
  st_cons (by
    rw [rs, h, Option.bind_some]
    dsimp only
    rw [h0, Option.bind_some]
    show Option.bind (some ds) _ = _
    rw [Option.bind_some, if_pos (Nat.lt_of_lt_of_le hl (by decide)), h2]) hr
theorem st_put1 {i : Nat} {md : Md} {m a : E} {d : D} {ds : List D} {k : Int} {j : Nat} {s3 : Sls} (h : evM F m md s w = some (d, s1, w1)) (ha : evM F a .pk s1 w1 = some (.int k, s2, w2)) (h0 : s2[i]? = some (.l ds)) (hj : ixN ds.length k = some j) (h2 : s2.set i (.l (ds.set j d)) = s3) (hr : rss F rest s3 w2 = some r) : rss F (.put1 i md m a :: rest) s w = some r :=
  st_cons (by
    rw [rs, h, Option.bind_some]
    dsimp only
    rw [ha, Option.bind_some]
    dsimp only
    rw [h0, Option.bind_some]
    show Option.bind (some ds) _ = _
    rw [Option.bind_some]
    show Option.bind (some k) _ = _
    rw [Option.bind_some, hj, ← h2]; rfl) hr
theorem st_put2 {i : Nat} {m a b : E} {d : D} {dss : List (List D)} {ds : List D} {k l : Int} {j jj : Nat} {s3 s4 : Sls} (h : evM F m .pk s w = some (d, s1, w1)) (ha : evM F a .pk s1 w1 = some (.int k, s2, w2)) (hb : evM F b .pk s2 w2 = some (.int l, s3, w3)) (h0 : s3[i]? = some (.ll dss)) (hj : ixN dss.length k = some j) (hd : dss[j]? = some ds) (hjj : ixN ds.length l = some jj) (h2 : s3.set i (.ll (dss.set j (ds.set jj d))) = s4) (hr : rss F rest s4 w3 = some r) : rss F (.put2 i m a b :: rest) s w = some r :=
  st_cons (by
    rw [rs, h, Option.bind_some]
    dsimp only
    rw [ha, Option.bind_some]
    dsimp only
    rw [hb, Option.bind_some]
    dsimp only
    rw [h0, Option.bind_some]
    show Option.bind (some dss) _ = _
    rw [Option.bind_some]
    show Option.bind (some k) _ = _
    rw [Option.bind_some]
    show Option.bind (some l) _ = _
    rw [Option.bind_some, hj, Option.bind_some, hd, Option.bind_some, hjj, ← h2]; rfl) hr
theorem st_putD {i : Nat} {m a : E} {d : D} {ks : List D} {k : List Key} {kvs : List (List Key × D)} {s3 : Sls} (h : evM F m .pk s w = some (d, s1, w1)) (ha : evM F a (.fz []) s1 w1 = some (.tup ks, s2, w2)) (h0 : s2[i]? = some (.dt kvs)) (hk : keysD ks = some k) (hl : kvs.length < 60000) (h2 : s2.set i (.dt (putT kvs k d)) = s3) (hr : rss F rest s3 w2 = some r) : rss F (.putD i m a :: rest) s w = some r :=
  st_cons (by
    rw [rs, h, Option.bind_some]
    dsimp only
    rw [ha, Option.bind_some]
    dsimp only
    rw [h0, Option.bind_some]
    show Option.bind (some kvs) _ = _
    rw [Option.bind_some]
    show Option.bind (some ks) _ = _
    rw [Option.bind_some, hk, Option.bind_some, if_pos (Nat.lt_of_lt_of_le hl (by decide)), h2]) hr
theorem st_expr {md : Md} {m : E} {d : D} (h : evM F m md s w = some (d, s1, w1)) (hr : rss F rest s1 w1 = some r) : rss F (.expr md m :: rest) s w = some r :=
  st_cons (by rw [rs, h]; rfl) hr
theorem rss_append (a b : List Sx) : ∀ (s : Sls) (w : Option W), rss F (a ++ b) s w = (rss F a s w).bind fun y => match y with
    | .nx s1 w1 => rss F b s1 w1
    | r => some r := by
  induction a with
  | nil => intro s w; rw [List.nil_append, st_nil, Option.bind_some]
  | cons x a ih =>
    intro s w
    rw [List.cons_append, rss, rss]
    cases h : rs F x s w with
    | none => rfl
    | some y =>
      rw [Option.bind_some, Option.bind_some]
      cases y with
      | nx s1 w1 => exact ih s1 w1
      | rt d w1 => rfl
      | bk s1 w1 => rfl
      | ct s1 w1 => rfl
theorem rss_if {c : E} {a b : List Sx} {t : Bool} (h : ev F c (vwS (fzA s)) w = some (.bl t, w1)) : rss F (.ifS c a b :: rest) s w = if t then rss F (a ++ rest) s w1 else rss F (b ++ rest) s w1 := by
  rw [rss, rs, em_pk h rfl, Option.bind_some]
  dsimp only
  show ((Option.bind (some t) _).bind _) = _
  rw [Option.bind_some, rss_append, rss_append]
  cases t <;> rfl
theorem st_if {c : E} {a b : List Sx} {t : Bool} (h : ev F c (vwS (fzA s)) w = some (.bl t, w1)) (h1 : t = true → rss F (a ++ rest) s w1 = some r) (h2 : t = false → rss F (b ++ rest) s w1 = some r) : rss F (.ifS c a b :: rest) s w = some r := by
  rw [rss_if h]
  cases t with
  | true => rw [if_pos rfl]; exact h1 rfl
  | false => exact h2 rfl
theorem st_if_t {c : E} {a b : List Sx} (h : ev F c (vwS (fzA s)) w = some (.bl true, w1)) (h1 : rss F (a ++ rest) s w1 = some r) : rss F (.ifS c a b :: rest) s w = some r := by
  rw [rss_if h]; exact h1
theorem st_if_f {c : E} {a b : List Sx} (h : ev F c (vwS (fzA s)) w = some (.bl false, w1)) (h1 : rss F (b ++ rest) s w1 = some r) : rss F (.ifS c a b :: rest) s w = some r := by
  rw [rss_if h]; exact h1
/-- a test that fails: what stands under it is never reached -/
theorem st_skip {c : E} {a : List Sx} {t : Bool} (h : ev F c (vwS (fzA s)) w = some (.bl t, w1)) (h0 : t = false) (h1 : rss F rest s w1 = some r) : rss F (.ifS c a [] :: rest) s w = some r := by
  subst h0
  exact st_if_f h h1
theorem st_for {tg : Tg} {ik : IK} {md : Md} {ms : List E} {body : List Sx} {ds its : List D} (h1 : evsM F ms md s w = some (ds, s1, w1)) (h2 : itemsD ik ds = some its) (h3 : forL (fun d s1 w1 => (bindS tg d s1).bind fun s2 => rss F body s2 w1) its s1 w1 = some (.nx s2 w2)) (hr : rss F rest s2 w2 = some r) : rss F (.forS tg ik md ms body :: rest) s w = some r :=
  st_cons (by rw [for_run h1 h2, h3]) hr
theorem st_forR {tg : Tg} {ik : IK} {md : Md} {ms : List E} {body : List Sx} {ds its : List D} {d : D} (h1 : evsM F ms md s w = some (ds, s1, w1)) (h2 : itemsD ik ds = some its) (h3 : forL (fun d s1 w1 => (bindS tg d s1).bind fun s2 => rss F body s2 w1) its s1 w1 = some (.rt d w2)) : rss F (.forS tg ik md ms body :: rest) s w = some (.rt d w2) := by
  rw [rss, for_run h1 h2, h3]; rfl
theorem st_ret {m : E} {d : D} (h : ev F m (vwS (fzA s)) w = some (d, w1)) : rss F (.ret m :: rest) s w = some (.rt d w1) := by
  rw [rss, rs, em_al h]; rfl
theorem st_retN : rss F (.retN :: rest) s w = some (.rt .non w) := by rw [rss, rs]; rfl
theorem st_brk : rss F (.brk :: rest) s w = some (.bk s w) := by rw [rss, rs]; rfl
theorem st_cont : rss F (.cont :: rest) s w = some (.ct s w) := by rw [rss, rs]; rfl
theorem run_rt {b : List Sx} {d : D} (h : rss F b s w = some (.rt d w1)) : (rss F b s w).bind resD = some (d, w1) := by rw [h]; rfl
theorem run_nx {b : List Sx} (h : rss F b s w = some (.nx s1 w1)) : (rss F b s w).bind resD = some (.non, w1) := by rw [h]; rfl
end
/-! ### the same rules, as judgements: the unifier does not look into them -/
structure JE (F : Orc) (e : E) (ρ : Env) (w : Option W) (d : D) (w' : Option W) : Prop where
  h : ev F e ρ w = some (d, w')
structure JA (F : Orc) (e : List E) (ρ : Env) (w : Option W) (d : List D) (w' : Option W) : Prop where
  h : evs F e ρ w = some (d, w')
structure JO (F : Orc) (e : Option E) (ρ : Env) (w : Option W) (d : Option D) (w' : Option W) : Prop where
  h : evo F e ρ w = some (d, w')
structure JC (F : Orc) (e : Option E) (ρ : Env) (w : Option W) (d : Bool) (w' : Option W) : Prop where
  h : evc F e ρ w = some (d, w')
structure JM (F : Orc) (e : E) (m : Md) (s : Sls) (w : Option W) (d : D) (s' : Sls) (w' : Option W) : Prop where
  h : evM F e m s w = some (d, s', w')
structure JN (F : Orc) (e : List E) (m : Md) (s : Sls) (w : Option W) (d : List D) (s' : Sls) (w' : Option W) : Prop where
  h : evsM F e m s w = some (d, s', w')
structure JP (F : Orc) (p : PM) (s : Sls) (w : Option W) (d : Sl) (s' : Sls) (w' : Option W) : Prop where
  h : evP F p s w = some (d, s', w')
structure JQ (F : Orc) (p : List PM) (s : Sls) (w : Option W) (d : List Sl) (s' : Sls) (w' : Option W) : Prop where
  h : evPs F p s w = some (d, s', w')
structure JS (F : Orc) (b : List Sx) (s : Sls) (w : Option W) (r : Res) : Prop where
  h : rss F b s w = some r
/-- a turn of a comprehension -/
structure JT (F : Orc) (own : List Nat) (tg : Tg) (cond : Option E) (elt : E) (ρ : Env) (w : Option W) (a : D) (p : Bool) (g : D) : Prop where
  h : ∃ ρ1, bindT tg a (wipeE ρ own) = some ρ1 ∧ ∃ t, evc F cond ρ1 w = some (t, w) ∧ t = p ∧ ∃ d, (t = true → ev F elt ρ1 w = some (d, w)) ∧ d = g
structure JU (F : Orc) (own : List Nat) (tg : Tg) (elt : E) (ρ : Env) (w : Option W) (a : D) (g : D) : Prop where
  h : ∃ ρ1, bindT tg a (wipeE ρ own) = some ρ1 ∧ ∃ d, ev F elt ρ1 w = some (d, w) ∧ d = g
section
variable {F : Orc} {ρ : Env} {w w1 w2 w3 w4 : Option W} {s s1 s2 : Sls} {r : Res} {rest : List Sx}
theorem jt {own : List Nat} {tg : Tg} {cond : Option E} {elt : E} {a : D} {ρ1 : Env} {t p : Bool} {d g : D} (h1 : bindT tg a (wipeE ρ own) = some ρ1) (h2 : JC F cond ρ1 w t w) (h3 : t = p) (h4 : t = true → JE F elt ρ1 w d w) (h5 : d = g) : JT F own tg cond elt ρ w a p g :=
  ⟨_, h1, _, h2.h, h3, _, fun z => (h4 z).h, h5⟩
theorem ju {own : List Nat} {tg : Tg} {elt : E} {a : D} {ρ1 : Env} {d g : D} (h1 : bindT tg a (wipeE ρ own) = some ρ1) (h4 : JE F elt ρ1 w d w) (h5 : d = g) : JU F own tg elt ρ w a g :=
  ⟨_, h1, _, h4.h, h5⟩
theorem jev_var {i : Nat} {d : D} (h : ρ[i]? = some (some d)) : JE F (.var i) ρ w d w :=
  ⟨ev_var h⟩
theorem jev_non  : JE F .non ρ w .non w :=
  ⟨ev_non⟩
theorem jev_bl {b : Bool} : JE F (.bl b) ρ w (.bl b) w :=
  ⟨ev_bl⟩
theorem jev_int {i : Int} : JE F (.int i) ρ w (.int i) w :=
  ⟨ev_int⟩
theorem jev_str {i : PySem.Str} : JE F (.str i) ρ w (.str i) w :=
  ⟨ev_str⟩
theorem jev_glo {x : PySem.Str} {i : Int} : JE F (.glo x i) ρ w (.int i) w :=
  ⟨ev_glo⟩
theorem jev_bin {op : Operator} {a b : E} {x y z : D} (h1 : JE F a ρ w x w1) (h2 : JE F b ρ w1 y w2) (h3 : opD op x y = some z) : JE F (.bin op a b) ρ w z w2 :=
  ⟨ev_bin h1.h h2.h h3⟩
theorem jev_neg {a : E} {i : Int} (h1 : JE F a ρ w (.int i) w1) : JE F (.neg a) ρ w (.int (-i)) w1 :=
  ⟨ev_neg h1.h⟩
theorem jev_cmp {op : CmpOp} {a b : E} {x y : D} {t : Bool} (h1 : JE F a ρ w x w1) (h2 : JE F b ρ w1 y w2) (h3 : cmpD op x y = some t) : JE F (.cmp op a b) ρ w (.bl t) w2 :=
  ⟨ev_cmp h1.h h2.h h3⟩
theorem jev_chain {o1 o2 : CmpOp} {a b c : E} {x y z : D} {t u : Bool} (h1 : JE F a ρ w x w) (h2 : JE F b ρ w y w) (h3 : cmpD o1 x y = some t) (h4 : t = true → JE F c ρ w z w) (h5 : t = true → cmpD o2 y z = some u) : JE F (.chain o1 o2 a b c) ρ w (.bl (t && u)) w :=
  ⟨ev_chain h1.h h2.h h3 (fun z => (h4 z).h) h5⟩
theorem jev_chain3 {o1 o2 o3 : CmpOp} {a b c d : E} {x y z v : D} {t u r : Bool} (h1 : JE F a ρ w x w) (h2 : JE F b ρ w y w) (h3 : cmpD o1 x y = some t) (h4 : t = true → JE F c ρ w z w) (h5 : t = true → cmpD o2 y z = some u) (h6 : t = true → u = true → JE F d ρ w v w) (h7 : t = true → u = true → cmpD o3 z v = some r) : JE F (.chain3 o1 o2 o3 a b c d) ρ w (.bl (t && (u && r))) w :=
  ⟨ev_chain3 h1.h h2.h h3 (fun z => (h4 z).h) h5 (fun z y => (h6 z y).h) h7⟩
theorem jev_and {a b : E} {t u : Bool} (h1 : JE F a ρ w (.bl t) w) (h2 : t = true → JE F b ρ w (.bl u) w) : JE F (.and a b) ρ w (.bl (t && u)) w :=
  ⟨ev_and h1.h (fun z => (h2 z).h)⟩
theorem jev_or {a b : E} {t u : Bool} (h1 : JE F a ρ w (.bl t) w) (h2 : t = false → JE F b ρ w (.bl u) w) : JE F (.or a b) ρ w (.bl (t || u)) w :=
  ⟨ev_or h1.h (fun z => (h2 z).h)⟩
theorem jev_not {a : E} {t : Bool} (h1 : JE F a ρ w (.bl t) w1) : JE F (.not a) ρ w (.bl (!t)) w1 :=
  ⟨ev_not h1.h⟩
theorem jev_ite {c a b : E} {t : Bool} {x y : D} (h1 : JE F c ρ w (.bl t) w) (h2 : t = true → JE F a ρ w x w) (h3 : t = false → JE F b ρ w y w) : JE F (.ite c a b) ρ w (if t then x else y) w :=
  ⟨ev_ite h1.h (fun z => (h2 z).h) (fun z => (h3 z).h)⟩
theorem jev_iteI {c a b : E} {t : Bool} {x y : Int} (h1 : JE F c ρ w (.bl t) w) (h2 : t = true → JE F a ρ w (.int x) w) (h3 : t = false → JE F b ρ w (.int y) w) : JE F (.ite c a b) ρ w (.int (if t then x else y)) w :=
  ⟨ev_iteI h1.h (fun z => (h2 z).h) (fun z => (h3 z).h)⟩
theorem jev_iteL {c a b : E} {t : Bool} {x y : List D} (h1 : JE F c ρ w (.bl t) w) (h2 : t = true → JE F a ρ w (.lst x) w) (h3 : t = false → JE F b ρ w (.lst y) w) : JE F (.ite c a b) ρ w (.lst (if t then x else y)) w :=
  ⟨ev_iteL h1.h (fun z => (h2 z).h) (fun z => (h3 z).h)⟩
theorem jea_nil  : JA F [] ρ w [] w :=
  ⟨ea_nil⟩
theorem jea_cons {e : E} {es : List E} {d : D} {ds : List D} (h1 : JE F e ρ w d w1) (h2 : JA F es ρ w1 ds w2) : JA F (e :: es) ρ w (d :: ds) w2 :=
  ⟨ea_cons h1.h h2.h⟩
theorem jev_tup {es : List E} {ds : List D} (h1 : JA F es ρ w ds w1) (h2 : ds.length < 60000) : JE F (.tup es) ρ w (.tup ds) w1 :=
  ⟨ev_tup h1.h h2⟩
theorem jev_lst {es : List E} {ds : List D} (h1 : JA F es ρ w ds w1) (h2 : ds.length < 60000) : JE F (.lst es) ρ w (.lst ds) w1 :=
  ⟨ev_lst h1.h h2⟩
theorem jev_idx {a b : E} {x y z : D} (h1 : JE F a ρ w x w1) (h2 : JE F b ρ w1 y w2) (h3 : idxD x y = some z) : JE F (.idx a b) ρ w z w2 :=
  ⟨ev_idx h1.h h2.h h3⟩
theorem jeo_none  : JO F none ρ w none w :=
  ⟨eo_none⟩
theorem jeo_some {e : E} {d : D} (h : JE F e ρ w d w1) : JO F (some e) ρ w (some d) w1 :=
  ⟨eo_some h.h⟩
theorem jev_slice {a : E} {lo hi : Option E} {x z : D} {l h : Option D} {i j : Option Int} (h1 : JE F a ρ w x w1) (h2 : JO F lo ρ w1 l w2) (h3 : JO F hi ρ w2 h w3) (h4 : optI l = some i) (h5 : optI h = some j) (h6 : sliceD x i j = some z) : JE F (.slice a lo hi) ρ w z w3 :=
  ⟨ev_slice h1.h h2.h h3.h h4 h5 h6⟩
theorem jev_rev {a : E} {x z : D} (h1 : JE F a ρ w x w1) (h2 : revD x = some z) : JE F (.rev a) ρ w z w1 :=
  ⟨ev_rev h1.h h2⟩
theorem jev_call {f : PySem.Str} {es : List E} {ds : List D} {d : D} {w' : Option W} (h1 : JA F es ρ w ds w1) (h2 : F f false ds none = some (d, w')) : JE F (.call f es) ρ w d w1 :=
  ⟨ev_call h1.h h2⟩
theorem jev_callR {f : PySem.Str} {es : List E} {ds : List D} {z : W} {d : D} {w2 : Option W} (h1 : JA F es ρ w ds (some z)) (hw : w ≠ none) (h2 : F f true ds (some z) = some (d, w2)) : JE F (.callR f es) ρ w d w2 :=
  ⟨ev_callR h1.h hw h2⟩
theorem jev_blt {b : Bi} {es : List E} {ds : List D} {d : D} (h1 : JA F es ρ w ds w1) (h2 : bltD b ds = some d) : JE F (.blt b es) ρ w d w1 :=
  ⟨ev_blt h1.h h2⟩
theorem jev_isi {a : E} {t : Ty} {x : D} (h1 : JE F a ρ w x w1) : JE F (.isi a t) ρ w (.bl (isiD x t)) w1 :=
  ⟨ev_isi h1.h⟩
theorem jev_isi2 {a : E} {t u : Ty} {x : D} (h1 : JE F a ρ w x w1) : JE F (.isi2 a t u) ρ w (.bl (isiD x t || isiD x u)) w1 :=
  ⟨ev_isi2 h1.h⟩
theorem jec_none  : JC F none ρ w true w :=
  ⟨ec_none⟩
theorem jec_some {e : E} {t : Bool} (h : JE F e ρ w (.bl t) w1) : JC F (some e) ρ w t w1 :=
  ⟨ec_some h.h⟩
theorem jem_pk {m : E} {d : D} (h : JE F m (vwS (fzA s)) w d w1) (h2 : isSc d = true) : JM F m .pk s w d s w1 :=
  ⟨em_pk h.h h2⟩
theorem jem_0 {m : E} {d : D} (h : JE F m (vwS s) w d w1) : JM F m (.fz []) s w d s w1 :=
  ⟨em_0 h.h⟩
theorem jem_fz {m : E} {d : D} {js : List Nat} (h : JE F m (vwS (frz js s)) w d w1) : JM F m (.fz js) s w d (frz js s) w1 :=
  ⟨em_fz h.h⟩
theorem jem_al {m : E} {d : D} (h : JE F m (vwS (fzA s)) w d w1) : JM F m .al s w d (fzA s) w1 :=
  ⟨em_al h.h⟩
theorem jes_pk {m : List E} {d : List D} (h : JA F m (vwS (fzA s)) w d w1) (h2 : d.all isSc = true) : JN F m .pk s w d s w1 :=
  ⟨es_pk h.h h2⟩
theorem jes_0 {m : List E} {d : List D} (h : JA F m (vwS s) w d w1) : JN F m (.fz []) s w d s w1 :=
  ⟨es_0 h.h⟩
theorem jes_fz {m : List E} {d : List D} {js : List Nat} (h : JA F m (vwS (frz js s)) w d w1) : JN F m (.fz js) s w d (frz js s) w1 :=
  ⟨es_fz h.h⟩
theorem jst_nil  : JS F [] s w (.nx s w) :=
  ⟨st_nil⟩
theorem jst_cons {x : Sx} (h : rs F x s w = some (.nx s1 w1)) (hr : JS F rest s1 w1 r) : JS F (x :: rest) s w r :=
  ⟨st_cons h hr.h⟩
theorem jst_set {i : Nat} {md : Md} {m : E} {d : D} (h : JM F m md s w d s1 w1) (h2 : s1.set i (.fr d) = s2) (hr : JS F rest s2 w1 r) : JS F (.set i md m :: rest) s w r :=
  ⟨st_set h.h h2 hr.h⟩
theorem jst_new1 {i : Nat} {md : Md} {m : E} {d : List D} (h : JM F m md s w (.lst d) s1 w1) (h2 : s1.set i (.l d) = s2) (hr : JS F rest s2 w1 r) : JS F (.new1 i md m :: rest) s w r :=
  ⟨st_new1 h.h h2 hr.h⟩
theorem jst_new2 {i : Nat} {md : Md} {m : E} {d : List D} {dss : List (List D)} (h : JM F m md s w (.lst d) s1 w1) (h1 : d = dss.map D.lst) (h2 : s1.set i (.ll dss) = s2) (hr : JS F rest s2 w1 r) : JS F (.new2 i md m :: rest) s w r :=
  ⟨st_new2 h.h h1 h2 hr.h⟩
theorem jst_newD {i : Nat} (h2 : s.set i (.dt []) = s2) (hr : JS F rest s2 w r) : JS F (.newD i :: rest) s w r :=
  ⟨st_newD h2 hr.h⟩
theorem jst_unp {tg : Tg} {md : Md} {m : E} {d : D} (h : JM F m md s w d s1 w1) (h2 : bindS tg d s1 = some s2) (hr : JS F rest s2 w1 r) : JS F (.unp tg md m :: rest) s w r :=
  ⟨st_unp h.h h2 hr.h⟩
theorem jep_fr {i : Nat} {md : Md} {m : E} {d : D} (h : JM F m md s w d s1 w1) : JP F ⟨i, .fr, md, m⟩ s w (.fr d) s1 w1 :=
  ⟨ep_fr h.h⟩
theorem jep_l {i : Nat} {md : Md} {m : E} {d : List D} (h : JM F m md s w (.lst d) s1 w1) : JP F ⟨i, .l, md, m⟩ s w (.l d) s1 w1 :=
  ⟨ep_l h.h⟩
theorem jep_d {i : Nat} {md : Md} {m : E} : JP F ⟨i, .d, md, m⟩ s w (.dt []) s w :=
  ⟨ep_d⟩
theorem jeps_nil  : JQ F [] s w [] s w :=
  ⟨eps_nil⟩
theorem jeps_cons {p : PM} {ps : List PM} {sl : Sl} {sls : List Sl} (h1 : JP F p s w sl s1 w1) (h2 : JQ F ps s1 w1 sls s2 w2) : JQ F (p :: ps) s w (sl :: sls) s2 w2 :=
  ⟨eps_cons h1.h h2.h⟩
theorem jst_par {ps : List PM} {sls : List Sl} (h : JQ F ps s w sls s1 w1) (h2 : setPs ps sls s1 = s2) (hr : JS F rest s2 w1 r) : JS F (.par ps :: rest) s w r :=
  ⟨st_par h.h h2 hr.h⟩
theorem jst_aug {i : Nat} {op : Operator} {m : E} {a b c : Int} (h0 : s[i]? = some (.fr (.int a))) (h : JM F m .pk s w (.int b) s1 w1) (h1 : augI op a b = some c) (h2 : s1.set i (.fr (.int c)) = s2) (hr : JS F rest s2 w1 r) : JS F (.aug i op m :: rest) s w r :=
  ⟨st_aug h0 h.h h1 h2 hr.h⟩
theorem jst_app {i : Nat} {md : Md} {m : E} {d : D} {ds : List D} (h : JM F m md s w d s1 w1) (h0 : s1[i]? = some (.l ds)) (hl : ds.length < 60000) (h2 : s1.set i (.l (ds ++ [d])) = s2) (hr : JS F rest s2 w1 r) : JS F (.app i md m :: rest) s w r :=
  ⟨st_app h.h h0 hl h2 hr.h⟩
theorem jst_put1 {i : Nat} {md : Md} {m a : E} {d : D} {ds : List D} {k : Int} {j : Nat} {s3 : Sls} (h : JM F m md s w d s1 w1) (ha : JM F a .pk s1 w1 (.int k) s2 w2) (h0 : s2[i]? = some (.l ds)) (hj : ixN ds.length k = some j) (h2 : s2.set i (.l (ds.set j d)) = s3) (hr : JS F rest s3 w2 r) : JS F (.put1 i md m a :: rest) s w r :=
  ⟨st_put1 h.h ha.h h0 hj h2 hr.h⟩
theorem jst_put2 {i : Nat} {m a b : E} {d : D} {dss : List (List D)} {ds : List D} {k l : Int} {j jj : Nat} {s3 s4 : Sls} (h : JM F m .pk s w d s1 w1) (ha : JM F a .pk s1 w1 (.int k) s2 w2) (hb : JM F b .pk s2 w2 (.int l) s3 w3) (h0 : s3[i]? = some (.ll dss)) (hj : ixN dss.length k = some j) (hd : dss[j]? = some ds) (hjj : ixN ds.length l = some jj) (h2 : s3.set i (.ll (dss.set j (ds.set jj d))) = s4) (hr : JS F rest s4 w3 r) : JS F (.put2 i m a b :: rest) s w r :=
  ⟨st_put2 h.h ha.h hb.h h0 hj hd hjj h2 hr.h⟩
theorem jst_putD {i : Nat} {m a : E} {d : D} {ks : List D} {k : List Key} {kvs : List (List Key × D)} {s3 : Sls} (h : JM F m .pk s w d s1 w1) (ha : JM F a (.fz []) s1 w1 (.tup ks) s2 w2) (h0 : s2[i]? = some (.dt kvs)) (hk : keysD ks = some k) (hl : kvs.length < 60000) (h2 : s2.set i (.dt (putT kvs k d)) = s3) (hr : JS F rest s3 w2 r) : JS F (.putD i m a :: rest) s w r :=
  ⟨st_putD h.h ha.h h0 hk hl h2 hr.h⟩
theorem jst_expr {md : Md} {m : E} {d : D} (h : JM F m md s w d s1 w1) (hr : JS F rest s1 w1 r) : JS F (.expr md m :: rest) s w r :=
  ⟨st_expr h.h hr.h⟩
theorem jst_if {c : E} {a b : List Sx} {t : Bool} (h : JE F c (vwS (fzA s)) w (.bl t) w1) (h1 : t = true → JS F (a ++ rest) s w1 r) (h2 : t = false → JS F (b ++ rest) s w1 r) : JS F (.ifS c a b :: rest) s w r :=
  ⟨st_if h.h (fun z => (h1 z).h) (fun z => (h2 z).h)⟩
theorem jst_if_t {c : E} {a b : List Sx} (h : JE F c (vwS (fzA s)) w (.bl true) w1) (h1 : JS F (a ++ rest) s w1 r) : JS F (.ifS c a b :: rest) s w r :=
  ⟨st_if_t h.h h1.h⟩
theorem jst_if_f {c : E} {a b : List Sx} (h : JE F c (vwS (fzA s)) w (.bl false) w1) (h1 : JS F (b ++ rest) s w1 r) : JS F (.ifS c a b :: rest) s w r :=
  ⟨st_if_f h.h h1.h⟩
theorem jst_skip {c : E} {a : List Sx} {t : Bool} (h : JE F c (vwS (fzA s)) w (.bl t) w1) (h0 : t = false) (h1 : JS F rest s w1 r) : JS F (.ifS c a [] :: rest) s w r :=
  ⟨st_skip h.h h0 h1.h⟩
theorem jst_ret {m : E} {d : D} (h : JE F m (vwS (fzA s)) w d w1) : JS F (.ret m :: rest) s w (.rt d w1) :=
  ⟨st_ret h.h⟩
theorem jst_retN  : JS F (.retN :: rest) s w (.rt .non w) :=
  ⟨st_retN⟩
theorem jst_brk  : JS F (.brk :: rest) s w (.bk s w) :=
  ⟨st_brk⟩
theorem jst_cont  : JS F (.cont :: rest) s w (.ct s w) :=
  ⟨st_cont⟩
theorem jev_ite_t {c a b : E} {d : D} (h1 : JE F c ρ w (.bl true) w1) (h2 : JE F a ρ w1 d w2) : JE F (.ite c a b) ρ w d w2 := ⟨ev_ite_t h1.h h2.h⟩
theorem jev_ite_f {c a b : E} {d : D} (h1 : JE F c ρ w (.bl false) w1) (h2 : JE F b ρ w1 d w2) : JE F (.ite c a b) ρ w d w2 := ⟨ev_ite_f h1.h h2.h⟩
theorem jev_comp {α : Type} {own : List Nat} {tg : Tg} {ik : IK} {es : List E} {cond : Option E} {elt : E} {ds : List D} (l : List α) (enc : α → D) {p : α → Bool} {g : α → D} (h1 : JA F es ρ w ds w) (h2 : itemsD ik ds = some (l.map enc)) (h3 : ∀ a ∈ l, JT F own tg cond elt ρ w (enc a) (p a) (g a)) (h4 : l.length < 60000) : JE F (.comp own tg ik es cond elt) ρ w (.lst ((l.filter p).map g)) w :=
  ⟨ev_comp l enc h1.h h2 (fun a ha => (h3 a ha).h) h4⟩
theorem jev_compA {α : Type} {own : List Nat} {tg : Tg} {ik : IK} {es : List E} {elt : E} {ds : List D} (l : List α) (enc : α → D) {g : α → D} (h1 : JA F es ρ w ds w) (h2 : itemsD ik ds = some (l.map enc)) (h3 : ∀ a ∈ l, JU F own tg elt ρ w (enc a) (g a)) (h4 : l.length < 60000) : JE F (.comp own tg ik es none elt) ρ w (.lst (l.map g)) w :=
  ⟨ev_compA l enc h1.h h2 (fun a ha => (h3 a ha).h) h4⟩
theorem jev_compR {own : List Nat} {tg : Tg} {es : List E} {cond : E} {elt : E} {n : Nat} {p : Nat → Bool} {g : Nat → D} (h1 : JA F es ρ w [.int (n : Int)] w) (h2 : n < 60000) (h3 : ∀ a, a < n → JT F own tg (some cond) elt ρ w (.int (a : Int)) (p a) (g a)) : JE F (.comp own tg .range es (some cond) elt) ρ w (.lst (((List.range n).filter p).map g)) w :=
  ⟨ev_compR h1.h h2 (fun a ha => (h3 a ha).h)⟩
theorem jev_compRA {own : List Nat} {tg : Tg} {es : List E} {elt : E} {n : Nat} {g : Nat → D} (h1 : JA F es ρ w [.int (n : Int)] w) (h2 : n < 60000) (h3 : ∀ a, a < n → JU F own tg elt ρ w (.int (a : Int)) (g a)) : JE F (.comp own tg .range es none elt) ρ w (.lst ((List.range n).map g)) w :=
  ⟨ev_compRA h1.h h2 (fun a ha => (h3 a ha).h)⟩
theorem jev_compP {own : List Nat} {tg : Tg} {e : E} {cond : E} {elt : E} {α : Type} {l : List α} {enc : α → D} {d : D} {p : α → Bool} {g : α → D} (h1 : JE F e ρ w d w) (h2 : seqD d = some (l.map enc)) (h4 : l.length < 60000) (h3 : ∀ a ∈ l, JT F own tg (some cond) elt ρ w (enc a) (p a) (g a)) : JE F (.comp own tg .plain [e] (some cond) elt) ρ w (.lst ((l.filter p).map g)) w :=
  ⟨ev_compP h1.h h2 h4 (fun a ha => (h3 a ha).h)⟩
theorem jev_compPA {own : List Nat} {tg : Tg} {e : E} {elt : E} {α : Type} {l : List α} {enc : α → D} {d : D} {g : α → D} (h1 : JE F e ρ w d w) (h2 : seqD d = some (l.map enc)) (h4 : l.length < 60000) (h3 : ∀ a ∈ l, JU F own tg elt ρ w (enc a) (g a)) : JE F (.comp own tg .plain [e] none elt) ρ w (.lst (l.map g)) w :=
  ⟨ev_compPA h1.h h2 h4 (fun a ha => (h3 a ha).h)⟩
theorem jrun_rt {b : List Sx} {d : D} (h : JS F b s w (.rt d w1)) : (rss F b s w).bind resD = some (d, w1) := run_rt h.h
theorem jrun_nx {b : List Sx} (h : JS F b s w (.nx s1 w1)) : (rss F b s w).bind resD = some (.non, w1) := run_nx h.h
theorem JE.to {e : E} {d d' : D} (h : JE F e ρ w d w1) (e2 : d = d') : JE F e ρ w d' w1 := e2 ▸ h
theorem JS.to {b : List Sx} {d d' : Res} (h : JS F b s w d) (e2 : d = d') : JS F b s w d' := e2 ▸ h
end
/-- a loop, with an invariant; the items are given by a list -/
theorem forL_map {α : Type} (l : List α) (enc : α → D) (f : D → Sls → Option W → Option Res) (I : Nat → Sls → Option W → Prop) {s : Sls} {w : Option W} (h0 : I 0 s w) (h : ∀ (k : Nat) (a : α) s w, l[k]? = some a → I k s w → ∃ s' w', f (enc a) s w = some (.nx s' w') ∧ I (k + 1) s' w') :
    ∃ s' w', forL f (l.map enc) s w = some (.nx s' w') ∧ I l.length s' w' := by
  obtain ⟨s', w', e, h1⟩ := forL_inv f I (l.map enc) 0 s w (fun i d s w e hI => by
    rw [List.getElem?_map] at e
    obtain ⟨a, h1, rfl⟩ := Option.map_eq_some_iff.mp e
    rw [Nat.zero_add] at hI ⊢
    exact h i a s w h1 hI) h0
  rw [List.length_map, Nat.zero_add] at h1
  exact ⟨s', w', e, h1⟩
/-- a loop -/
structure JL (F : Orc) (tg : Tg) (body : List Sx) (its : List D) (s : Sls) (w : Option W) (r : Res) : Prop where
  h : forL (fun d s1 w1 => (bindS tg d s1).bind fun s2 => rss F body s2 w1) its s w = some r
section
variable {F : Orc} {w w1 w2 w3 w4 : Option W} {s s1 s2 : Sls} {r : Res} {rest : List Sx}
theorem jst_for {tg : Tg} {ik : IK} {md : Md} {ms : List E} {body : List Sx} {ds its : List D} (h1 : JN F ms md s w ds s1 w1) (h2 : itemsD ik ds = some its) (h3 : JL F tg body its s1 w1 (.nx s2 w2)) (hr : JS F rest s2 w2 r) : JS F (.forS tg ik md ms body :: rest) s w r :=
  ⟨st_for h1.h h2 h3.h hr.h⟩
theorem jst_forR {tg : Tg} {ik : IK} {md : Md} {ms : List E} {body : List Sx} {ds its : List D} {d : D} (h1 : JN F ms md s w ds s1 w1) (h2 : itemsD ik ds = some its) (h3 : JL F tg body its s1 w1 (.rt d w2)) : JS F (.forS tg ik md ms body :: rest) s w (.rt d w2) :=
  ⟨st_forR h1.h h2 h3.h⟩
theorem jl_map {tg : Tg} {body : List Sx} {α : Type} (l : List α) (enc : α → D) (I : Nat → Sls → Option W → Prop) (h0 : I 0 s w)
    (h : ∀ (k : Nat) (a : α) s w, l[k]? = some a → I k s w → ∃ s1 s' w', bindS tg (enc a) s = some s1 ∧ JS F body s1 w (.nx s' w') ∧ I (k + 1) s' w') :
    ∃ s' w', JL F tg body (l.map enc) s w (.nx s' w') ∧ I l.length s' w' := by
  obtain ⟨s', w', e, hI⟩ := forL_map l enc (fun d s1 w1 => (bindS tg d s1).bind fun s2 => rss F body s2 w1) I h0 (fun k a s w hk hI => by
    obtain ⟨s1, s', w', e1, e2, e3⟩ := h k a s w hk hI
    exact ⟨s', w', by rw [e1, Option.bind_some, e2.h], e3⟩)
  exact ⟨s', w', ⟨e⟩, hI⟩
theorem jl_rng {tg : Tg} {body : List Sx} (n : Nat) (I : Nat → Sls → Option W → Prop) (h0 : I 0 s w)
    (h : ∀ (k : Nat) s w, k < n → I k s w → ∃ s1 s' w', bindS tg (.int (k : Int)) s = some s1 ∧ JS F body s1 w (.nx s' w') ∧ I (k + 1) s' w') :
    ∃ s' w', JL F tg body ((List.range n).map natD) s w (.nx s' w') ∧ I n s' w' := by
  have := jl_map (F := F) (tg := tg) (body := body) (List.range n) natD I h0 (fun k a s w hk hI => by
    obtain ⟨h1, h2⟩ := List.getElem?_eq_some_iff.mp hk
    rw [List.getElem_range] at h2
    subst h2
    rw [List.length_range] at h1
    exact h k s w h1 hI)
  rwa [List.length_range] at this
end
/-- one def one call deeper -/
theorem orc_step {fns : List Fn} {k : Nat} {x : PySem.Str} {rw : Bool} {f : Fn} {ds : List D} {w : Option W} {r : D × Option W} (h1 : findF fns x rw = some f) (h2 : ds.length = f.nargs) (h3 : (rss (orc fns k) f.body (f.s0 ds) w).bind resD = some r) : orc fns (k + 1) x rw ds w = some r := by
  show (findF fns x rw).bind _ = _
  rw [h1, Option.bind_some, if_pos h2]
  exact h3
end Lt

set_option Elab.async false
set_option linter.all false
set_option maxRecDepth 100000
set_option maxHeartbeats 4000000
/-! LtMa: plain mathematics: counting, distances by mending rods, drawn nets, light. -/
namespace Lt
open PySem PySem.Spec PyProof.Rows L2
/-! ### counting -/
theorem countP_lt {α : Type} {p q : α → Bool} : ∀ {l : List α}, (∀ x ∈ l, p x = true → q x = true) → (∃ x ∈ l, q x = true ∧ p x = false) → l.countP p < l.countP q
  | [], _, ⟨_, h, _⟩ => by simp at h
  | a :: l, h, ⟨x, hx, hq, hp⟩ => by
    have hle : l.countP p ≤ l.countP q := List.countP_mono_left fun y hy => h y (by simp [hy])
    rw [List.countP_cons, List.countP_cons]
    rcases List.mem_cons.mp hx with e | e
    · subst e
      rw [hq, hp]
      simp
      omega
    · have ih := countP_lt (l := l) (fun y hy => h y (by simp [hy])) ⟨x, e, hq, hp⟩
      have := h a (by simp)
      cases hpa : p a with
      | true => rw [this hpa]; simp; omega
      | false => cases q a <;> simp <;> omega
/-! ### distances by mending rods -/
def rank (n : Nat) (d : Nat → Int) (q : Nat) : Nat := (List.range n).countP fun r => decide (d r < d q)
theorem rank_lt {n : Nat} {d : Nat → Int} {r q : Nat} (hr : r < n) (h : d r < d q) : rank n d r < rank n d q := by
  refine countP_lt (fun x _ hx => ?_) ⟨r, List.mem_range.mpr hr, ?_, ?_⟩
  · rw [decide_eq_true_eq] at hx ⊢
    omega
  · rw [decide_eq_true_eq]; exact h
  · rw [decide_eq_false_iff_not]; omega
theorem rank_n {n : Nat} {d : Nat → Int} {q : Nat} (hq : q < n) : rank n d q < n := by
  have h1 : rank n d q < (List.range n).countP fun _ => true := countP_lt (fun _ _ _ => rfl) ⟨q, List.mem_range.mpr hq, rfl, by rw [decide_eq_false_iff_not]; omega⟩
  have h2 : (List.range n).countP (fun _ => true) ≤ n := by
    have := List.countP_le_length (l := List.range n) (p := fun _ : Nat => true)
    rwa [List.length_range] at this
  omega
/-- within one round over the rods -/
structure Rnd (n k : Nat) (p : Nat) (rods : List Rod) (d f0 g : Nat → Nat → Int) : Prop where
  lo : ∀ i j, i < n → j < n → d i j ≤ g i j
  hi : ∀ i j, i < n → j < n → g i j ≤ f0 i j
  dn : ∀ x r, rods[x]? = some r → ∀ i, i < n → (x < k ∨ (x = k ∧ i < p)) → g i r.2.1 ≤ f0 i r.1 + r.2.2 ∧ g i r.1 ≤ f0 i r.2.1 + r.2.2
theorem mn_min' (a b : Int) : mn a b = min a b := by
  unfold mn
  split <;> omega
def relax (g : Nat → Nat → Int) (p a b : Nat) (l : Int) : Nat → Nat → Int := upd2 (upd2 g p a (mn (g p a) (g p b + l))) p b (mn (upd2 g p a (mn (g p a) (g p b + l)) p b) (upd2 g p a (mn (g p a) (g p b + l)) p a + l))
theorem relax_at (g : Nat → Nat → Int) (p a b : Nat) (l : Int) (hab : a ≠ b) (i j : Nat) : relax g p a b l i j = if i = p ∧ j = a then min (g p a) (g p b + l) else if i = p ∧ j = b then min (g p b) (min (g p a) (g p b + l) + l) else g i j := by
  unfold relax upd2
  simp only [mn_min']
  by_cases c1 : i = p ∧ j = b
  · rw [if_pos c1]
    obtain ⟨rfl, rfl⟩ := c1
    have n1 : ¬ j = a := fun z => hab z.symm
    simp [n1, hab]
  · rw [if_neg c1]
    by_cases c2 : i = p ∧ j = a
    · rw [if_pos c2, if_pos c2]
    · rw [if_neg c2, if_neg c2, if_neg c1]
theorem Rnd.next {n k p : Nat} {rods : List Rod} {d f0 g : Nat → Nat → Int} (R : Rnd n k p rods d f0 g) {r : Rod} (hr : rods[k]? = some r) (hd : ∀ i, i < n → d i r.2.1 ≤ d i r.1 + r.2.2 ∧ d i r.1 ≤ d i r.2.1 + r.2.2) (h1 : r.1 < n) (h2 : r.2.1 < n) (h3 : r.1 ≠ r.2.1) (h4 : 0 ≤ r.2.2) (hp : p < n) :
    Rnd n k (p + 1) rods d f0 (relax g p r.1 r.2.1 r.2.2) := by
  have e := relax_at g p r.1 r.2.1 r.2.2 h3
  have le : ∀ i j, relax g p r.1 r.2.1 r.2.2 i j ≤ g i j := fun i j => by
    rw [e]
    split
    · rename_i c; obtain ⟨rfl, rfl⟩ := c; omega
    · split
      · rename_i c; obtain ⟨rfl, rfl⟩ := c; omega
      · omega
  refine ⟨fun i j hi hj => ?_, fun i j hi hj => Int.le_trans (le i j) (R.hi i j hi hj), fun x r' hx i hi hc => ?_⟩
  · have a1 := R.lo p r.1 hp h1
    have a2 := R.lo p r.2.1 hp h2
    have a3 := hd p hp
    rw [e]
    split
    · rename_i c; obtain ⟨rfl, rfl⟩ := c; omega
    · split
      · rename_i c; obtain ⟨rfl, rfl⟩ := c; omega
      · exact R.lo i j hi hj
  · by_cases c : x < k ∨ (x = k ∧ i < p)
    · obtain ⟨q1, q2⟩ := R.dn x r' hx i hi c
      exact ⟨Int.le_trans (le _ _) q1, Int.le_trans (le _ _) q2⟩
    · have c2 : x = k ∧ i = p := by omega
      obtain ⟨rfl, rfl⟩ := c2
      rw [hr] at hx
      cases hx
      have a1 := R.hi i r.1 hp h1
      have a2 := R.hi i r.2.1 hp h2
      rw [e, e, if_neg (fun z => h3 z.2.symm), if_pos ⟨rfl, rfl⟩, if_pos ⟨rfl, rfl⟩]
      omega
theorem Rnd.roll {n k : Nat} {rods : List Rod} {d f0 g : Nat → Nat → Int} (R : Rnd n k n rods d f0 g) : Rnd n (k + 1) 0 rods d f0 g :=
  ⟨R.lo, R.hi, fun x r hx i hi c => R.dn x r hx i hi (by omega)⟩
/-- after t rounds -/
structure FarI (n t : Nat) (d g : Nat → Nat → Int) : Prop where
  lo : ∀ i j, i < n → j < n → d i j ≤ g i j
  eq : ∀ i j, i < n → j < n → rank n (d i) j ≤ t → g i j = d i j
theorem FarI.zero {n : Nat} {rods : List Rod} {d g : Nat → Nat → Int} (D : IsDist n rods d) (hp1 : ∀ r ∈ rods, 1 ≤ r.2.2) (hg : ∀ i j, i < n → j < n → d i j ≤ g i j) (hz : ∀ i, i < n → g i i = 0) : FarI n 0 d g := by
  refine ⟨hg, fun i j hi hj h => ?_⟩
  by_cases e : i = j
  · subst e; rw [hz i hi, D.z i hi]
  · have h0 := D.z i hi
    have hp := D.p i j hi hj
    by_cases c : d i i < d i j
    · have := rank_lt (d := d i) hi c
      omega
    · exfalso
      obtain ⟨q, hq, r, hr, hc, he⟩ := D.l i j hi hj e
      have pq := D.p i q hi hq
      have l1 := hp1 r hr
      omega
theorem FarI.next {n t : Nat} {rods : List Rod} {d f0 g : Nat → Nat → Int} (D : IsDist n rods d) (hp1 : ∀ r ∈ rods, 1 ≤ r.2.2) (I : FarI n t d f0) (R : Rnd n rods.length 0 rods d f0 g) : FarI n (t + 1) d g := by
  refine ⟨R.lo, fun i j hi hj h => ?_⟩
  have a1 := R.lo i j hi hj
  have a2 := R.hi i j hi hj
  by_cases e : i = j
  · subst e
    have z := D.z i hi
    have := I.eq i i hi hi (by
      have : rank n (d i) i = 0 := by
        unfold rank
        rw [List.countP_eq_zero]
        intro x hx
        rw [decide_eq_true_eq, z]
        have := D.p i x hi (List.mem_range.mp hx)
        omega
      omega)
    omega
  · obtain ⟨q, hq, r, hr, hc, he⟩ := D.l i j hi hj e
    have l1 := hp1 r hr
    have h5 := rank_lt (n := n) (d := d i) (r := q) (q := j) hq (by omega)
    have h6 := I.eq i q hi hq (by omega)
    obtain ⟨x, hx, ex⟩ := List.mem_iff_getElem.mp hr
    obtain ⟨q1, q2⟩ := R.dn x r (by rw [List.getElem?_eq_getElem hx, ex]) i hi (.inl hx)
    rcases hc with ⟨rfl, rfl⟩ | ⟨rfl, rfl⟩ <;> omega
theorem FarI.done {n : Nat} {d g : Nat → Nat → Int} (I : FarI n n d g) {i j : Nat} (hi : i < n) (hj : j < n) : g i j = d i j :=
  I.eq i j hi hj (Nat.le_of_lt (rank_n hj))
/-! ### the drawn net -/
abbrev NK := Nat × Nat
def putN (m : List (NK × Int)) (k : NK) (v : Int) : List (NK × Int) :=
  if (m.any fun e => decide (e.1 = k)) = true then m.map (fun e => if e.1 = k then (e.1, v) else e) else m ++ [(k, v)]
theorem putN_keys (m : List (NK × Int)) (k : NK) (v : Int) : (putN m k v).map (·.1) = if k ∈ m.map (·.1) then m.map (·.1) else m.map (·.1) ++ [k] := by
  unfold putN
  have h : ((m.any fun e => decide (e.1 = k)) = true) ↔ k ∈ m.map (·.1) := by
    rw [List.any_eq_true, List.mem_map]
    constructor
    · rintro ⟨e, h1, h2⟩; exact ⟨e, h1, by simpa using h2⟩
    · rintro ⟨e, h1, h2⟩; exact ⟨e, h1, by simpa using h2⟩
  by_cases c : k ∈ m.map (·.1)
  · rw [if_pos (h.mpr c), if_pos c, List.map_map]
    refine List.map_congr_left fun e _ => ?_
    show (if e.1 = k then (e.1, v) else e).1 = e.1
    split <;> rfl
  · rw [if_neg (fun z => c (h.mp z)), if_neg c, List.map_append]
    rfl
theorem putN_mem {m : List (NK × Int)} {k : NK} {v : Int} {e : NK × Int} (h : e ∈ putN m k v) : e ∈ m ∨ e = (k, v) := by
  unfold putN at h
  split at h
  · obtain ⟨x, hx, rfl⟩ := List.mem_map.mp h
    split
    · rename_i c; right; rw [← c]
    · exact .inl hx
  · rcases List.mem_append.mp h with h | h
    · exact .inl h
    · exact .inr (by simpa using h)
/-- what the dict of rods keeps: places up to p are joined -/
structure NetI (n p : Nat) (lim : Int) (m : List (NK × Int)) : Prop where
  nd : (m.map (·.1)).Nodup
  ok : ∀ e ∈ m, e.1.1 < e.1.2 ∧ e.1.2 < n ∧ 1 ≤ e.2 ∧ e.2 ≤ lim
  con : ∀ q, 1 ≤ q → q < p → ∃ t, t < q ∧ (t, q) ∈ m.map (·.1)
theorem NetI.put {n p : Nat} {lim : Int} {m : List (NK × Int)} (N : NetI n p lim m) {a b : Nat} {v : Int} (h1 : a < b) (h2 : b < n) (h3 : 1 ≤ v) (h4 : v ≤ lim) : NetI n p lim (putN m (a, b) v) := by
  refine ⟨?_, fun e he => ?_, fun q q1 q2 => ?_⟩
  · rw [putN_keys]
    split
    · exact N.nd
    · rename_i c
      rw [List.nodup_append]
      refine ⟨N.nd, by simp, fun x hx y hy => ?_⟩
      rw [List.mem_singleton] at hy
      subst hy
      intro z
      subst z
      exact c hx
  · rcases putN_mem he with z | z
    · exact N.ok e z
    · subst z; exact ⟨h1, h2, h3, h4⟩
  · obtain ⟨t, t1, t2⟩ := N.con q q1 q2
    refine ⟨t, t1, ?_⟩
    rw [putN_keys]
    split
    · exact t2
    · exact List.mem_append_left _ t2
theorem NetI.grow {n p : Nat} {lim : Int} {m : List (NK × Int)} (N : NetI n p lim m) {a : Nat} {v : Int} (h1 : a < p) (h2 : p < n) (h3 : 1 ≤ v) (h4 : v ≤ lim) : NetI n (p + 1) lim (putN m (a, p) v) := by
  have N2 := N.put h1 h2 h3 h4
  refine ⟨N2.nd, N2.ok, fun q q1 q2 => ?_⟩
  by_cases c : q < p
  · exact N2.con q q1 c
  · have : q = p := by omega
    subst this
    refine ⟨a, h1, ?_⟩
    rw [putN_keys]
    split
    · rename_i c; exact c
    · exact List.mem_append_right _ (by simp)
def leN (a b : NK) : Bool := !decide (b.1 < a.1 ∨ (b.1 = a.1 ∧ b.2 < a.2))
def valN (m : List (NK × Int)) (k : NK) : Int := ((m.find? fun e => decide (e.1 = k)).map (·.2)).getD 0
def rodsN (m : List (NK × Int)) : List Rod := ((m.map (·.1)).mergeSort leN).map fun k => (k.1, k.2, valN m k)
theorem valN_mem {m : List (NK × Int)} {k : NK} (h : k ∈ m.map (·.1)) : (k, valN m k) ∈ m ∧ (m.find? fun e => decide (e.1 = k)).map (·.2) = some (valN m k) := by
  unfold valN
  cases e : m.find? fun e => decide (e.1 = k) with
  | none =>
    obtain ⟨x, h1, h2⟩ := List.mem_map.mp h
    have := List.find?_eq_none.mp e x h1
    rw [decide_eq_true_eq] at this
    exact absurd h2 this
  | some y =>
    have h1 := List.mem_of_find?_eq_some e
    have h2 : y.1 = k := by simpa using List.find?_some e
    refine ⟨?_, rfl⟩
    show (k, y.2) ∈ m
    rw [← h2]
    exact h1
theorem leN_trans (a b c : NK) (h1 : leN a b = true) (h2 : leN b c = true) : leN a c = true := by
  unfold leN at *
  simp only [Bool.not_eq_true', decide_eq_false_iff_not] at *
  omega
theorem leN_total (a b : NK) : (leN a b || leN b a) = true := by
  unfold leN
  simp only [Bool.or_eq_true, Bool.not_eq_true', decide_eq_false_iff_not]
  omega
theorem NetI.srt {n p : Nat} {lim : Int} {m : List (NK × Int)} (N : NetI n p lim m) : ((m.map (·.1)).mergeSort leN).Pairwise fun a b => a.1 < b.1 ∨ (a.1 = b.1 ∧ a.2 < b.2) := by
  have h1 := List.pairwise_mergeSort leN_trans leN_total (m.map (·.1))
  have h2 : ((m.map (·.1)).mergeSort leN).Nodup := (List.mergeSort_perm _ _).nodup_iff.mpr N.nd
  have h3 := h1.and h2
  refine h3.imp fun {a b} h => ?_
  obtain ⟨q1, q2⟩ := h
  unfold leN at q1
  simp only [Bool.not_eq_true', decide_eq_false_iff_not] at q1
  have : ¬ (a.1 = b.1 ∧ a.2 = b.2) := fun z => q2 (Prod.ext z.1 z.2)
  omega
theorem NetI.net {n : Nat} {lim : Int} {m : List (NK × Int)} (N : NetI n n lim m) (h1 : 1 ≤ n) (h2 : n ≤ 8) (h3 : lim ≤ 9) : NetOk n (rodsN m) := by
  have hm : ∀ k : NK, k ∈ (m.map (·.1)).mergeSort leN ↔ k ∈ m.map (·.1) := fun k => (List.mergeSort_perm _ _).mem_iff
  refine ⟨h1, h2, ?_, fun r hr => ?_, fun p p1 p2 => ?_⟩
  · unfold rodsN
    rw [List.pairwise_map]
    exact N.srt
  · obtain ⟨k, hk, rfl⟩ := List.mem_map.mp hr
    obtain ⟨a1, a2, a3, a4⟩ := N.ok _ (valN_mem ((hm k).mp hk)).1
    exact ⟨a1, a2, a3, by show valN m k ≤ 9; have : valN m k ≤ lim := a4; omega⟩
  · obtain ⟨t, t1, t2⟩ := N.con p p1 p2
    exact ⟨t, valN m (t, p), t1, List.mem_map.mpr ⟨(t, p), (hm _).mpr t2, rfl⟩⟩
theorem NetI.few {n p : Nat} {lim : Int} {m : List (NK × Int)} (N : NetI n p lim m) : m.length ≤ n * n := by
  have h : ∀ (l : List NK), l.Nodup → (∀ k ∈ l, k.1 < n ∧ k.2 < n) → l.length ≤ n * n := fun l h1 h2 => by
    have h3 : (l.map fun k => k.1 * n + k.2).Nodup := by
      rw [List.Nodup, List.pairwise_map]
      refine h1.imp_of_mem fun {a b} ha hb hab z => hab ?_
      obtain ⟨a1, a2⟩ := h2 a ha
      obtain ⟨b1, b2⟩ := h2 b hb
      have e1 : (a.1 * n + a.2) / n = a.1 := by rw [Nat.mul_comm, Nat.mul_add_div (by omega), Nat.div_eq_of_lt a2]; rfl
      have e2 : (b.1 * n + b.2) / n = b.1 := by rw [Nat.mul_comm, Nat.mul_add_div (by omega), Nat.div_eq_of_lt b2]; rfl
      have e3 : a.1 = b.1 := by rw [← e1, ← e2, z]
      have e4 : a.2 = b.2 := by rw [e3] at z; omega
      exact Prod.ext e3 e4
    have h4 := h3.length_le_of_subset (l₂ := List.range (n * n)) fun x hx => by
      obtain ⟨k, hk, rfl⟩ := List.mem_map.mp hx
      obtain ⟨a1, a2⟩ := h2 k hk
      rw [List.mem_range]
      have : (k.1 + 1) * n ≤ n * n := Nat.mul_le_mul_right n a1
      have e : (k.1 + 1) * n = k.1 * n + n := Nat.succ_mul _ _
      omega
    rwa [List.length_map, List.length_range] at h4
  have := h (m.map (·.1)) N.nd fun k hk => by
    obtain ⟨e, he, rfl⟩ := List.mem_map.mp hk
    obtain ⟨a1, a2, _⟩ := N.ok e he
    omega
  rwa [List.length_map] at this
/-! ### distances, light -/
theorem IsDist.tri {n : Nat} {rods : List Rod} {d : Nat → Nat → Int} (hp1 : ∀ r ∈ rods, 1 ≤ r.2.2) (D : IsDist n rods d) : ∀ (m : Nat) (i j k : Nat), i < n → j < n → k < n → d j k ≤ m → d i k ≤ d i j + d j k := by
  intro m
  induction m with
  | zero =>
    intro i j k hi hj hk h
    by_cases e : j = k
    · subst e; rw [D.z j hj]; omega
    · obtain ⟨q, hq, r, hr, _, h2⟩ := D.l j k hj hk e
      have := D.p j q hj hq
      have := hp1 r hr
      omega
  | succ m ih =>
    intro i j k hi hj hk h
    by_cases e : j = k
    · subst e; rw [D.z j hj]; omega
    · obtain ⟨q, hq, r, hr, h1, h2⟩ := D.l j k hj hk e
      have h3 := hp1 r hr
      have h4 := ih i j q hi hj hq (by omega)
      obtain ⟨h5, h6⟩ := D.e r hr i hi
      rcases h1 with ⟨rfl, rfl⟩ | ⟨rfl, rfl⟩ <;> omega
theorem IsDist.tr {n : Nat} {rods : List Rod} {d : Nat → Nat → Int} (hp1 : ∀ r ∈ rods, 1 ≤ r.2.2) (D : IsDist n rods d) {i j k : Nat} (hi : i < n) (hj : j < n) (hk : k < n) : d i k ≤ d i j + d j k :=
  D.tri hp1 (d j k).toNat i j k hi hj hk (by have := D.p j k hj hk; omega)
theorem IsDist.pos {n : Nat} {rods : List Rod} {d : Nat → Nat → Int} (hp1 : ∀ r ∈ rods, 1 ≤ r.2.2) (D : IsDist n rods d) {i j : Nat} (hi : i < n) (hj : j < n) (h : i ≠ j) : 1 ≤ d i j := by
  obtain ⟨q, hq, r, hr, _, h2⟩ := D.l i j hi hj h
  have := D.p i q hi hq
  have := hp1 r hr
  omega
theorem IsDist.sy1 {n : Nat} {rods : List Rod} {d : Nat → Nat → Int} (hp1 : ∀ r ∈ rods, 1 ≤ r.2.2) (D : IsDist n rods d) : ∀ (m : Nat) (i j : Nat), i < n → j < n → d j i ≤ m → d i j ≤ d j i := by
  intro m
  induction m with
  | zero =>
    intro i j hi hj h
    by_cases e : j = i
    · subst e; omega
    · have := D.pos hp1 hj hi e
      omega
  | succ m ih =>
    intro i j hi hj h
    by_cases e : j = i
    · subst e; omega
    · obtain ⟨q, hq, r, hr, h1, h2⟩ := D.l j i hj hi e
      have h3 := hp1 r hr
      have h4 := ih q j hq hj (by omega)
      have h5 := D.tr hp1 hi hq hj
      obtain ⟨h6, h7⟩ := D.e r hr i hi
      have h8 := D.z i hi
      rcases h1 with ⟨rfl, rfl⟩ | ⟨rfl, rfl⟩ <;> omega
theorem IsDist.sy {n : Nat} {rods : List Rod} {d : Nat → Nat → Int} (hp1 : ∀ r ∈ rods, 1 ≤ r.2.2) (D : IsDist n rods d) {i j : Nat} (hi : i < n) (hj : j < n) : d i j = d j i := by
  have h1 := D.sy1 hp1 (d j i).toNat i j hi hj (by have := D.p j i hj hi; omega)
  have h2 := D.sy1 hp1 (d i j).toNat j i hj hi (by have := D.p i j hi hj; omega)
  omega
/-- the tower of i hides j -/
def hid (f : Nat → Nat → Int) (h : Nat → Int) (i j : Nat) : Bool := (!decide ((i : Int) = (j : Int))) && decide (h j ≤ h i - f i j)
theorem hid_iff {f : Nat → Nat → Int} {h : Nat → Int} {i j : Nat} : hid f h i j = true ↔ i ≠ j ∧ h j ≤ h i - f i j := by
  unfold hid
  simp only [Bool.and_eq_true, Bool.not_eq_true', decide_eq_false_iff_not, decide_eq_true_eq]
  omega
theorem hid_f {f : Nat → Nat → Int} {h : Nat → Int} {i j : Nat} : hid f h i j = false ↔ ¬ (i ≠ j ∧ h j ≤ h i - f i j) := by
  rw [← hid_iff]
  cases hid f h i j <;> simp
def hidL (n : Nat) (f : Nat → Nat → Int) (h : Nat → Int) (p : Nat) : List Nat := (List.range n).filter fun i => hid f h i p
def litB (n : Nat) (f : Nat → Nat → Int) (h : Nat → Int) (p : Nat) : Bool := !((List.range n).any fun i => hid f h i p)
def litL (n : Nat) (f : Nat → Nat → Int) (h : Nat → Int) : List Nat := (List.range n).filter (litB n f h)
theorem litB_iff {n : Nat} {f : Nat → Nat → Int} {h : Nat → Int} {p : Nat} : litB n f h p = true ↔ ∀ i, i < n → hid f h i p = false := by
  unfold litB
  simp only [Bool.not_eq_true', List.any_eq_false, List.mem_range, Bool.not_eq_true]
theorem litB_f {n : Nat} {f : Nat → Nat → Int} {h : Nat → Int} {p : Nat} : litB n f h p = false ↔ ∃ i, i < n ∧ hid f h i p = true := by
  unfold litB
  simp only [Bool.not_eq_false', List.any_eq_true, List.mem_range]
theorem litL_mem {n : Nat} {f : Nat → Nat → Int} {h : Nat → Int} {p : Nat} : p ∈ litL n f h ↔ p < n ∧ litB n f h p = true := by
  unfold litL
  rw [List.mem_filter, List.mem_range]
theorem hidL_mem {n : Nat} {f : Nat → Nat → Int} {h : Nat → Int} {p q : Nat} : q ∈ hidL n f h p ↔ q < n ∧ hid f h q p = true := by
  unfold hidL
  rw [List.mem_filter, List.mem_range]
theorem hidL_nil {n : Nat} {f : Nat → Nat → Int} {h : Nat → Int} {p : Nat} : hidL n f h p = [] ↔ litB n f h p = true := by
  rw [litB_iff]
  unfold hidL
  rw [List.filter_eq_nil_iff]
  constructor
  · intro z i hi
    have := z i (List.mem_range.mpr hi)
    simpa using this
  · intro z i hi
    rw [z i (List.mem_range.mp hi)]
    decide
section
variable {n : Nat} {rods : List Rod} {f : Nat → Nat → Int} {h : Nat → Int} (hp1 : ∀ r ∈ rods, 1 ≤ r.2.2) (D : IsDist n rods f)
include hp1 D
theorem hid_gt {i j : Nat} (hi : i < n) (hj : j < n) (z : hid f h i j = true) : h j < h i := by
  obtain ⟨z1, z2⟩ := hid_iff.mp z
  have := D.pos hp1 hi hj z1
  omega
theorem hid_trans {i j k : Nat} (hi : i < n) (hj : j < n) (hk : k < n) (z : hid f h i j = true) (y : hid f h j k = true) : hid f h i k = true := by
  obtain ⟨z1, z2⟩ := hid_iff.mp z
  obtain ⟨y1, y2⟩ := hid_iff.mp y
  have a1 := D.pos hp1 hi hj z1
  have a2 := D.pos hp1 hj hk y1
  have a3 := D.tr hp1 hi hj hk
  rw [hid_iff]
  refine ⟨fun e => ?_, by omega⟩
  subst e
  omega
/-- what is hidden is hidden by a lit place -/
theorem lit_hider {m : Int} (hm : ∀ i, i < n → h i ≤ m) {p : Nat} (hp : p < n) : ∀ (t : Nat) (i : Nat), i < n → hid f h i p = true → m - h i ≤ t → ∃ q, q < n ∧ litB n f h q = true ∧ hid f h q p = true := by
  intro t
  induction t with
  | zero =>
    intro i hi z ht
    refine ⟨i, hi, ?_, z⟩
    rw [litB_iff]
    intro j hj
    cases e : hid f h j i with
    | false => rfl
    | true =>
      have := hid_gt hp1 D hj hi e
      have := hm j hj
      omega
  | succ t ih =>
    intro i hi z ht
    cases e : litB n f h i with
    | true => exact ⟨i, hi, e, z⟩
    | false =>
      obtain ⟨j, hj, y⟩ := litB_f.mp e
      have := hid_gt hp1 D hj hi y
      exact ih j hj (hid_trans hp1 D hj hi hp y z) (by omega)
theorem lit_or {m : Int} (hm : ∀ i, i < n → h i ≤ m) {p : Nat} (hp : p < n) : litB n f h p = true ∨ ∃ q, q < n ∧ litB n f h q = true ∧ hid f h q p = true := by
  cases e : litB n f h p with
  | true => exact .inl rfl
  | false =>
    obtain ⟨i, hi, z⟩ := litB_f.mp e
    exact .inr (lit_hider hp1 D hm hp (m - h i).toNat i hi z (by omega))
theorem lit_some {m : Int} (hm : ∀ i, i < n → h i ≤ m) (hn : 1 ≤ n) : litL n f h ≠ [] := by
  rcases lit_or hp1 D hm (p := 0) (by omega) with z | ⟨q, hq, z, _⟩
  · exact fun e => by
      have := litL_mem.mpr ⟨(show 0 < n by omega), z⟩
      rw [e] at this
      simp at this
  · exact fun e => by
      have := litL_mem.mpr ⟨hq, z⟩
      rw [e] at this
      simp at this
end
end Lt

set_option Elab.async false
set_option linter.all false
set_option maxRecDepth 100000
set_option maxHeartbeats 4000000
/-! LtRb: plain Lean: rows and tables as data; small defs. -/
namespace Lt
open PySem PySem.Spec PyProof.Rows L2
def rowT (n : Nat) (h : Nat → Int) : D := .tup (rowD n h)
def plsT (l : List Nat) : D := .tup (l.map natD)
def plsL (l : List Nat) : D := .lst (l.map natD)
theorem idx_rowT {n : Nat} (h : Nat → Int) {j : Nat} (hj : j < n) : idxD (rowT n h) (.int (j : Int)) = some (.int (h j)) := by
  show atI (rowD n h) (j : Int) = _
  unfold atI
  rw [rowD_len, ixN_nat hj]
  exact rowD_get n h hj
theorem idx_tblL {n : Nat} (f : Nat → Nat → Int) {i : Nat} (h : i < n) : idxD (tblL n f) (.int (i : Int)) = some (.lst (rowD n (f i))) := idx_tbl n f h
def OkNeedNet (F : Orc) : Prop := ∀ n rods, NetOk n rods → F "need_net" false [netD n rods] none = some (.non, none)
def RowIn (n : Nat) (m : Int) (h : Nat → Int) : Prop := ∀ i, i < n → 0 ≤ h i ∧ h i ≤ m
def OkNeedRow (F : Orc) : Prop := ∀ (n : Nat) (r : D) (h : Nat → Int), RowIn n 99 h → F "need_row" false [.tup [.int (n : Int), r], rowT n h] none = some (.non, none)
def OkNeedPlace (F : Orc) : Prop := ∀ (n : Nat) (r : D) (p : Nat), p < n → F "need_place" false [.tup [.int (n : Int), r], .int (p : Int)] none = some (.non, none)
def OkTableOf (F : Orc) : Prop := ∀ n rods f, NetOk n rods → IsDist n rods f → F "table_of" false [netD n rods] none = some (tblL n f, none)
def OkNeedBoth (nb : PySem.Str) (F : Orc) : Prop := ∀ n rods f h, NetOk n rods → IsDist n rods f → RowIn n 99 h → F nb false [netD n rods, rowT n h] none = some (tblL n f, none)
def b_need_both : List Sx := [.expr (.fz []) (.call "need_net" [.var 0]), .expr (.fz []) (.call "need_row" [.var 0, .var 1]), .ret (.call "table_of" [.var 0])]
theorem need_both_run (F : Orc) (h1 : OkNeedNet F) (h2 : OkNeedRow F) (h3 : OkTableOf F) {n rods f h} (N : NetOk n rods) (d : IsDist n rods f) (r : RowIn n 99 h) :
    (rss F b_need_both [.fr (netD n rods), .fr (rowT n h)] none).bind resD = some (tblL n f, none) := by
  apply jrun_rt
  unfold b_need_both
  repeat' (first | exact jev_var rfl | exact jev_int | exact jev_glo | exact jev_bl | exact jev_non | exact jev_str | exact h1 _ _ N | exact h2 _ _ _ r | exact h3 _ _ _ N d | apply jev_bin | apply jev_cmp | apply jev_and | apply jev_or | apply jev_not | apply jev_idx | apply jev_chain | apply jev_chain3 | apply jev_iteI | apply jev_tup | apply jev_lst | apply jev_slice | apply jev_call | apply jev_blt | apply jev_isi2 | apply jev_isi | apply jev_neg | exact jea_nil | apply jea_cons | exact jeo_none | apply jeo_some | exact jec_none | apply jec_some | apply jev_compRA | apply jev_compR | apply jev_compPA | apply jev_compP | refine' jt rfl ?_ ?_ ?_ ?_ | refine' ju rfl ?_ ?_ | apply jem_0 | apply jem_pk | apply jem_al | apply jem_fz | apply jes_0 | apply jes_pk | apply jes_fz | apply jst_set | apply jst_new1 | apply jst_expr | apply jst_ret | apply jst_unp | exact jst_nil | apply jst_app | apply jst_par | exact jeps_nil | apply jeps_cons | apply jep_fr | apply jep_l | exact jep_d | intro _ | ((with_reducible apply nrmS); simp only [List.set_cons_zero, List.set_cons_succ]; exact rfl) | apply opD_add | apply opD_sub | apply cmpD_lt | apply cmpD_le | apply cmpD_gt | apply cmpD_ge | apply cmpD_eqI | apply cmpD_neI | (apply idx_rowT; first | assumption | omega) | (apply idx_tblL; first | assumption | omega) | (apply idx_row; first | assumption | omega) | exact rfl | assumption | (simp only [List.length_cons, List.length_nil, List.length_map, List.length_range]; omega))
def b_hides (need_both : PySem.Str) : List Sx := [.set 4 (.fz []) (.call need_both [.var 0, .var 1]), .expr (.fz []) (.call "need_place" [.var 0, .var 2]), .expr (.fz []) (.call "need_place" [.var 0, .var 3]), .ret (.and (.cmp .NotEq (.var 2) (.var 3)) (.cmp .GtE (.bin .Sub (.idx (.var 1) (.var 2)) (.idx (.idx (.var 4) (.var 2)) (.var 3))) (.idx (.var 1) (.var 3))))]
theorem hides_run (F : Orc) {nb : PySem.Str} (h1 : OkNeedBoth nb F) (h2 : OkNeedPlace F) {n rods f h} (N : NetOk n rods) (d : IsDist n rods f) (r : RowIn n 99 h) {i j : Nat} (hi : i < n) (hj : j < n) :
    (rss F (b_hides nb) [.fr (netD n rods), .fr (rowT n h), .fr (.int (i : Int)), .fr (.int (j : Int)), .un] none).bind resD = some (.bl (hid f h i j), none) := by
  apply jrun_rt
  unfold b_hides
  repeat' (first | exact jev_var rfl | exact jev_int | exact jev_glo | exact jev_bl | exact jev_non | exact jev_str | exact h1 _ _ _ _ N d r | exact h2 _ _ _ hi | exact h2 _ _ _ hj | apply jev_bin | apply jev_cmp | apply jev_and | apply jev_or | apply jev_not | apply jev_idx | apply jev_chain | apply jev_chain3 | apply jev_iteI | apply jev_tup | apply jev_lst | apply jev_slice | apply jev_call | apply jev_blt | apply jev_isi2 | apply jev_isi | apply jev_neg | exact jea_nil | apply jea_cons | exact jeo_none | apply jeo_some | exact jec_none | apply jec_some | apply jev_compRA | apply jev_compR | apply jev_compPA | apply jev_compP | refine' jt rfl ?_ ?_ ?_ ?_ | refine' ju rfl ?_ ?_ | apply jem_0 | apply jem_pk | apply jem_al | apply jem_fz | apply jes_0 | apply jes_pk | apply jes_fz | apply jst_set | apply jst_new1 | apply jst_expr | apply jst_ret | apply jst_unp | exact jst_nil | apply jst_app | apply jst_par | exact jeps_nil | apply jeps_cons | apply jep_fr | apply jep_l | exact jep_d | intro _ | ((with_reducible apply nrmS); simp only [List.set_cons_zero, List.set_cons_succ]; exact rfl) | apply opD_add | apply opD_sub | apply cmpD_lt | apply cmpD_le | apply cmpD_gt | apply cmpD_ge | apply cmpD_eqI | apply cmpD_neI | (apply idx_rowT; first | assumption | omega) | (apply idx_tblL; first | assumption | omega) | (apply idx_row; first | assumption | omega) | exact rfl | assumption | (simp only [List.length_cons, List.length_nil, List.length_map, List.length_range]; omega))
  trace_state
end Lt

set_option Elab.async false
set_option linter.all false
set_option maxRecDepth 100000
set_option maxHeartbeats 4000000
/-! LtZ: plain Lean: rows are right rows. -/
namespace Lt
open PySem PySem.Spec PyProof.Rows L2
def bRowStep : List Sx := [.ifS (.not (.call "within" [.var 3, .int 0, .glo "MOST_HEIGHT" 99])) [.never] []]
def bNeedRow : List Sx := [.ifS (.not (.call "tuple_of" [.var 1, .idx (.var 0) (.int 0), .idx (.var 0) (.int 0)])) [.never] [], .forS (.t [.n 2, .n 3]) .enum (.fz []) [.var 1] bRowStep]
theorem enumD_at : ∀ (xs : List D) (k i : Nat) (d : D), (enumD k xs)[i]? = some d → ∃ x, xs[i]? = some x ∧ d = .tup [.int ((k + i : Nat) : Int), x]
  | [], _, _, _, h => by simp [enumD] at h
  | x :: xs, k, 0, d, h => by simp [enumD] at h; exact ⟨x, rfl, h.symm⟩
  | x :: xs, k, i + 1, d, h => by
    obtain ⟨y, h1, h2⟩ := enumD_at xs (k + 1) i d (by simpa [enumD] using h)
    exact ⟨y, by simpa using h1, by rw [h2, show k + 1 + i = k + (i + 1) by omega]⟩
theorem row_step (F : Orc) (h : OkWithin F) (a b c : Sl) (x : Int) (h0 : 0 ≤ x) (h1 : x ≤ 99) : rss F bRowStep [a, b, c, .fr (.int x)] none = some (.nx [a, b, c, .fr (.int x)] none) := by
  unfold bRowStep
  simp only [rss, rs, evM, evsM, evPs, evP, setPs, ev, evs, evo, evc, vwS, fzA, frz, fzG, fz_fr, fz_un, fz_l, fz_ll, fz_dt, vw_fr, vw_un, vw_l, vw_ll, vw_dt, Sl.asL, Sl.asLL, Sl.asT, List.map_cons, List.map_nil, Option.bind_some, Option.map_some, Option.bind_none, Option.map_none, List.getElem?_cons_zero, List.getElem?_cons_succ, List.getElem?_nil, List.set_cons_zero, List.set_cons_succ, List.set_nil, isSc, asI, asLs, asTu, isBl, rowAt, setRow, resD, optI, bindS, bindSs, bindT, bindTs, wipeE, List.length_cons, List.length_nil, List.contains_nil, List.contains_cons, Bool.or_false, Bool.false_or, Bool.or_true, Bool.true_or, Bool.and_true, Bool.true_and, Bool.and_false, Bool.false_and, Bool.not_true, Bool.not_false, Bool.false_eq_true, if_true, if_false, ↓reduceIte, beq_iff_eq, Nat.reduceBEq, Nat.reduceEqDiff, List.all_cons, List.all_nil, opD_add, opD_sub, opD_mul, opD_mod, opD_fdiv, opD_pow, cmpD_lt, cmpD_le, cmpD_gt, cmpD_ge, bltD_int, bltD_len, bltD_lenT, bltD_min2, bltD_max2, bltD_tuple, bltD_tupleT, Nat.zero_lt_succ, Nat.reduceLT, Nat.reduceAdd, Nat.lt_add_one, decide_true, decide_false, ne_eq, not_true_eq_false, not_false_eq_true, reduceCtorEq, Int.reduceNeg, h x 0 99, h0, h1]
theorem need_row_run (F : Orc) (h1 : OkTupleOf F) (h2 : OkWithin F) (n : Nat) (r : D) (hs : List Int) (hl : hs.length = n) (hb : ∀ x ∈ hs, 0 ≤ x ∧ x ≤ 99) : (rss F bNeedRow [.fr (.tup [.int (n : Int), r]), .fr (.tup (hs.map D.int)), .un, .un] none).bind resD = some (.non, none) := by
  have e0 : idxD (.tup [.int (n : Int), r]) (.int 0) = some (.int (n : Int)) := rfl
  have e1 := h1 (hs.map D.int) n n
  rw [List.length_map, hl] at e1
  have e2 : rs F (.ifS (.not (.call "tuple_of" [.var 1, .idx (.var 0) (.int 0), .idx (.var 0) (.int 0)])) [.never] []) [.fr (.tup [.int (n : Int), r]), .fr (.tup (hs.map D.int)), .un, .un] none = some (.nx [.fr (.tup [.int (n : Int), r]), .fr (.tup (hs.map D.int)), .un, .un] none) := by
    simp only [rss, rs, evM, evsM, evPs, evP, setPs, ev, evs, evo, evc, vwS, fzA, frz, fzG, fz_fr, fz_un, fz_l, fz_ll, fz_dt, vw_fr, vw_un, vw_l, vw_ll, vw_dt, Sl.asL, Sl.asLL, Sl.asT, List.map_cons, List.map_nil, Option.bind_some, Option.map_some, Option.bind_none, Option.map_none, List.getElem?_cons_zero, List.getElem?_cons_succ, List.getElem?_nil, List.set_cons_zero, List.set_cons_succ, List.set_nil, isSc, asI, asLs, asTu, isBl, rowAt, setRow, resD, optI, bindS, bindSs, bindT, bindTs, wipeE, List.length_cons, List.length_nil, List.contains_nil, List.contains_cons, Bool.or_false, Bool.false_or, Bool.or_true, Bool.true_or, Bool.and_true, Bool.true_and, Bool.and_false, Bool.false_and, Bool.not_true, Bool.not_false, Bool.false_eq_true, if_true, if_false, ↓reduceIte, beq_iff_eq, Nat.reduceBEq, Nat.reduceEqDiff, List.all_cons, List.all_nil, opD_add, opD_sub, opD_mul, opD_mod, opD_fdiv, opD_pow, cmpD_lt, cmpD_le, cmpD_gt, cmpD_ge, bltD_int, bltD_len, bltD_lenT, bltD_min2, bltD_max2, bltD_tuple, bltD_tupleT, Nat.zero_lt_succ, Nat.reduceLT, Nat.reduceAdd, Nat.lt_add_one, decide_true, decide_false, ne_eq, not_true_eq_false, not_false_eq_true, reduceCtorEq, Int.reduceNeg, e0, e1, Int.le_refl]
  have e3 : evsM F [.var 1] (.fz []) [.fr (.tup [.int (n : Int), r]), .fr (.tup (hs.map D.int)), .un, .un] none = some ([.tup (hs.map D.int)], [.fr (.tup [.int (n : Int), r]), .fr (.tup (hs.map D.int)), .un, .un], none) := by
    simp only [rss, rs, evM, evsM, evPs, evP, setPs, ev, evs, evo, evc, vwS, fzA, frz, fzG, fz_fr, fz_un, fz_l, fz_ll, fz_dt, vw_fr, vw_un, vw_l, vw_ll, vw_dt, Sl.asL, Sl.asLL, Sl.asT, List.map_cons, List.map_nil, Option.bind_some, Option.map_some, Option.bind_none, Option.map_none, List.getElem?_cons_zero, List.getElem?_cons_succ, List.getElem?_nil, List.set_cons_zero, List.set_cons_succ, List.set_nil, isSc, asI, asLs, asTu, isBl, rowAt, setRow, resD, optI, bindS, bindSs, bindT, bindTs, wipeE, List.length_cons, List.length_nil, List.contains_nil, List.contains_cons, Bool.or_false, Bool.false_or, Bool.or_true, Bool.true_or, Bool.and_true, Bool.true_and, Bool.and_false, Bool.false_and, Bool.not_true, Bool.not_false, Bool.false_eq_true, if_true, if_false, ↓reduceIte, beq_iff_eq, Nat.reduceBEq, Nat.reduceEqDiff, List.all_cons, List.all_nil, opD_add, opD_sub, opD_mul, opD_mod, opD_fdiv, opD_pow, cmpD_lt, cmpD_le, cmpD_gt, cmpD_ge, bltD_int, bltD_len, bltD_lenT, bltD_min2, bltD_max2, bltD_tuple, bltD_tupleT, Nat.zero_lt_succ, Nat.reduceLT, Nat.reduceAdd, Nat.lt_add_one, decide_true, decide_false, ne_eq, not_true_eq_false, not_false_eq_true, reduceCtorEq, Int.reduceNeg]
  obtain ⟨s', w', e4, hw', _⟩ := forL_inv (fun d s1 w1 => (bindS (.t [.n 2, .n 3]) d s1).bind fun s2 => rss F bRowStep s2 w1)
    (fun J s w => w = none ∧ ∃ x2 x3, s = [.fr (.tup [.int (n : Int), r]), .fr (.tup (hs.map D.int)), x2, x3])
    (enumD 0 (hs.map D.int)) 0 _ none (fun i d s w hd ⟨hw, x2, x3, hss⟩ => by
      subst hw hss
      obtain ⟨x, hx, rfl⟩ := enumD_at _ _ _ _ hd
      rw [List.getElem?_map] at hx
      obtain ⟨y, hy, rfl⟩ := Option.map_eq_some_iff.mp hx
      obtain ⟨b0, b1⟩ := hb y (List.mem_of_getElem? hy)
      refine ⟨[.fr (.tup [.int (n : Int), r]), .fr (.tup (hs.map D.int)), .fr (.int ((0 + i : Nat) : Int)), .fr (.int y)], none, ?_, rfl, _, _, rfl⟩
      rw [show bindS (.t [.n 2, .n 3]) (.tup [.int ((0 + i : Nat) : Int), .int y]) [.fr (.tup [.int (n : Int), r]), .fr (.tup (hs.map D.int)), x2, x3] = some [.fr (.tup [.int (n : Int), r]), .fr (.tup (hs.map D.int)), .fr (.int ((0 + i : Nat) : Int)), .fr (.int y)] from rfl, Option.bind_some]
      exact row_step F h2 _ _ _ y b0 b1) ⟨rfl, _, _, rfl⟩
  subst hw'
  unfold bNeedRow
  rw [rss, e2, Option.bind_some]
  dsimp only
  rw [rss, for_run e3 (its := enumD 0 (hs.map D.int)) rfl, e4, Option.bind_some]
  dsimp only
  rw [rss]
  rfl
end Lt

set_option Elab.async false
set_option linter.all false
set_option maxRecDepth 100000
set_option maxHeartbeats 400000
/-! LtRc: plain Lean: nets are right nets. -/
namespace Lt
open PySem PySem.Spec PyProof.Rows L2
theorem jrun_to {F : Orc} {b : List Sx} {s : Sls} {w w1 : Option W} {d d' : D} (h : JS F b s w (.rt d w1)) (e : d = d') : (rss F b s w).bind resD = some (d', w1) := e ▸ run_rt h.h
theorem jl_inv {F : Orc} {w : Option W} {s : Sls} {tg : Tg} {body : List Sx} (its : List D) (I : Nat → Sls → Option W → Prop) (h0 : I 0 s w)
    (h : ∀ (k : Nat) (d : D) s w, its[k]? = some d → I k s w → ∃ s1 s' w', bindS tg d s = some s1 ∧ JS F body s1 w (.nx s' w') ∧ I (k + 1) s' w') :
    ∃ s' w', JL F tg body its s w (.nx s' w') ∧ I its.length s' w' := by
  have := jl_map (F := F) (tg := tg) (body := body) its id I h0 h
  rwa [List.map_id] at this
/-! ### comparisons -/
theorem eqD_int (i j : Int) : eqD (.int i) (.int j) = decide (i = j) := rfl
theorem eqD_bl (i j : Bool) : eqD (.bl i) (.bl j) = (i == j) := by cases i <;> cases j <;> rfl
theorem cmpD_neB (i j : Bool) : cmpD .NotEq (.bl i) (.bl j) = some (!(i == j)) := by cases i <;> cases j <;> rfl
theorem cmpD_eqB (i j : Bool) : cmpD .Eq (.bl i) (.bl j) = some (i == j) := by cases i <;> cases j <;> rfl
theorem all_nat (l : List Nat) : (l.map natD).all eqOk = true := by
  rw [List.all_eq_true]
  intro x hx
  obtain ⟨k, _, rfl⟩ := List.mem_map.mp hx
  rfl
theorem inD_nat (a : Nat) : ∀ l : List Nat, inD (.int (a : Int)) (l.map natD) = decide (a ∈ l)
  | [] => by simp [inD]
  | b :: l => by
    have ih := inD_nat a l
    unfold inD at ih ⊢
    rw [List.map_cons, List.any_cons, ih, show eqD (natD b) (.int (a : Int)) = decide ((b : Int) = (a : Int)) from rfl]
    by_cases c : a = b
    · subst c; simp
    · have : ¬ ((b : Int) = (a : Int)) := by omega
      simp [c, this]
theorem cmpD_inN (a : Nat) (l : List Nat) : cmpD .In (.int (a : Int)) (plsL l) = some (decide (a ∈ l)) := by
  show (if (eqOk (.int (a : Int)) && (l.map natD).all eqOk) = true then some (inD (.int (a : Int)) (l.map natD)) else none) = _
  rw [all_nat, inD_nat]
  rfl
theorem cmpD_inT (a : Nat) (l : List Nat) : cmpD .In (.int (a : Int)) (plsT l) = some (decide (a ∈ l)) := by
  show (if (eqOk (.int (a : Int)) && (l.map natD).all eqOk) = true then some (inD (.int (a : Int)) (l.map natD)) else none) = _
  rw [all_nat, inD_nat]
  rfl
def pairD (a b : Nat) : D := .tup [.int (a : Int), .int (b : Int)]
theorem lexI (x y : Int) (r t : List (Int ⊕ List Nat)) : PyProof.Rows.lexLt itemOrd (Sum.inl x :: r) (Sum.inl y :: t) = (decide (x < y) || (!decide (y < x) && PyProof.Rows.lexLt itemOrd r t)) := rfl
theorem ltD_pair (a b c d : Nat) : ltD (pairD a b) (pairD c d) = decide (a < c ∨ (a = c ∧ b < d)) := by
  show PyProof.Rows.lexLt itemOrd [Sum.inl 1, Sum.inl (a : Int), Sum.inl 1, Sum.inl (b : Int), Sum.inl 0] [Sum.inl 1, Sum.inl (c : Int), Sum.inl 1, Sum.inl (d : Int), Sum.inl 0] = _
  rw [lexI, lexI, lexI, lexI, lexI]
  have e : PyProof.Rows.lexLt itemOrd ([] : List (Int ⊕ List Nat)) [] = false := rfl
  rw [e]
  apply Bool.eq_iff_iff.mpr
  simp
  omega
theorem le_pair (a b c d : Nat) : cmpD .LtE (pairD a b) (pairD c d) = some (!decide (c < a ∨ (c = a ∧ d < b))) := by
  have e : ordOk (pairD a b) (pairD c d) = true := by rfl
  show (if ordOk (pairD a b) (pairD c d) = true then some (!ltD (pairD c d) (pairD a b)) else none) = _
  rw [if_pos e, ltD_pair]

/-! ### checks -/
def OkIsRod (F : Orc) : Prop := ∀ (n : Nat) (r : Rod), r.1 < r.2.1 → r.2.1 < n → 1 ≤ r.2.2 → r.2.2 ≤ 9 → F "is_rod" false [.int (n : Int), rodD r] none = some (.bl true, none)
theorem tup_t {F : Orc} (h : OkTupleOf F) {xs : List D} {a b : Int} (h1 : a ≤ (xs.length : Int)) (h2 : (xs.length : Int) ≤ b) : F "tuple_of" false [.tup xs, .int a, .int b] none = some (.bl true, none) := by
  rw [h xs a b]
  simp [h1, h2]
theorem within_t {F : Orc} (h : OkWithin F) {i a b : Int} (h1 : a ≤ i) (h2 : i ≤ b) : F "within" false [.int i, .int a, .int b] none = some (.bl true, none) := by
  rw [h i a b]
  simp [h1, h2]
theorem seq_rod (r : Rod) : seqD (rodD r) = some (([(r.1 : Int), (r.2.1 : Int), r.2.2] : List Int).map D.int) := rfl
theorem blsD_map {α : Type} (p : α → Bool) : ∀ l : List α, blsD (l.map fun a => D.bl (p a)) = some (l.map p)
  | [] => rfl
  | a :: l => by rw [List.map_cons, blsD, blsD_map p l]; rfl
theorem bltD_any {α : Type} (p : α → Bool) (l : List α) : bltD .any [.lst (l.map fun a => D.bl (p a))] = some (.bl (l.any p)) := by
  show (blsD _).map _ = _
  rw [blsD_map]
  show some (D.bl ((l.map p).any id)) = _
  rw [List.any_map]; rfl
theorem bltD_all {α : Type} (p : α → Bool) (l : List α) : bltD .all [.lst (l.map fun a => D.bl (p a))] = some (.bl (l.all p)) := by
  show (blsD _).map _ = _
  rw [blsD_map]
  show some (D.bl ((l.map p).all id)) = _
  rw [List.all_map]; rfl
def b_is_rod : List Sx := [.ifS (.or (.not (.call "tuple_of" [.var 1, .int 3, .int 3])) (.not (.blt .all [.comp [2] (.n 2) .plain [.var 1] none (.call "whole" [.var 2])]))) [.ret (.bl false)] [], .ret (.and (.chain3 .LtE .Lt .Lt (.int 0) (.idx (.var 1) (.int 0)) (.idx (.var 1) (.int 1)) (.var 0)) (.chain .LtE .LtE (.int 1) (.idx (.var 1) (.int 2)) (.glo "MOST_LENGTH" 9)))]
theorem is_rod_run (F : Orc) (h1 : OkTupleOf F) (h2 : OkWhole F) (n : Nat) (r : Rod) (a1 : r.1 < r.2.1) (a2 : r.2.1 < n) (a3 : 1 ≤ r.2.2) (a4 : r.2.2 ≤ 9) :
    (rss F b_is_rod [.fr (.int (n : Int)), .fr (rodD r), .un] none).bind resD = some (.bl true, none) := by
  apply jrun_to
  unfold b_is_rod
  repeat' (first | exact jev_var rfl | exact jev_int | exact jev_glo | exact jev_bl | exact jev_non | exact jev_str | apply jst_skip | exact tup_t h1 (xs := [.int (r.1 : Int), .int (r.2.1 : Int), .int r.2.2]) (Int.le_refl 3) (Int.le_refl 3) | exact seq_rod _ | exact h2 _ | apply bltD_all | apply jev_bin | apply jev_cmp | apply jev_and | apply jev_or | apply jev_not | apply jev_idx | apply jev_chain | apply jev_chain3 | apply jev_iteI | apply jev_tup | apply jev_lst | apply jev_slice | apply jev_call | apply jev_blt | apply jev_isi2 | apply jev_isi | apply jev_neg | exact jea_nil | apply jea_cons | exact jeo_none | apply jeo_some | exact jec_none | apply jec_some | apply jev_compRA | apply jev_compR | apply jev_compPA | apply jev_compP | refine' jt rfl ?_ ?_ ?_ ?_ | refine' ju rfl ?_ ?_ | apply jem_0 | apply jem_pk | apply jem_al | apply jem_fz | apply jes_0 | apply jes_pk | apply jes_fz | apply jst_set | apply jst_new1 | apply jst_expr | apply jst_ret | apply jst_unp | exact jst_nil | apply jst_app | apply jst_par | exact jeps_nil | apply jeps_cons | apply jep_fr | apply jep_l | exact jep_d | intro _ | apply opD_add | apply opD_sub | apply cmpD_lt | apply cmpD_le | apply cmpD_gt | apply cmpD_ge | apply cmpD_eqI | apply cmpD_neI | (apply idx_rowT; first | assumption | omega) | (apply idx_tblL; first | assumption | omega) | (apply idx_row; first | assumption | omega) | exact rfl | assumption | (simp only [List.length_cons, List.length_nil, List.length_map, List.length_range]; omega))
  simp
  omega

theorem enum_rods (rods : List Rod) : ∀ (k i : Nat) (d : D), (enumD k (rods.map rodD))[i]? = some d → ∃ r, rods[i]? = some r ∧ d = .tup [.int ((k + i : Nat) : Int), rodD r] := by
  intro k i d h
  obtain ⟨x, hx, rfl⟩ := enumD_at _ _ _ _ h
  rw [List.getElem?_map] at hx
  obtain ⟨r, h1, rfl⟩ := Option.map_eq_some_iff.mp hx
  exact ⟨r, h1, rfl⟩
theorem cut_rod (r : Rod) : sliceD (rodD r) none (some 2) = some (pairD r.1 r.2.1) := rfl
theorem idx_before (rods : List Rod) (i : Nat) (hi : i < rods.length) (h : decide (0 < (i : Int)) = true) : idxD (.tup (rods.map rodD)) (.int ((i : Int) - 1)) = some (rodD (rods.getD (i - 1) (0, 0, 0))) := by
  rw [decide_eq_true_eq] at h
  show atI (rods.map rodD) ((i : Int) - 1) = _
  unfold atI
  rw [List.length_map, show (i : Int) - 1 = ((i - 1 : Nat) : Int) by omega, ixN_nat (by omega)]
  show (rods.map rodD)[i - 1]? = _
  rw [List.getElem?_map, List.getD_eq_getElem?_getD, List.getElem?_eq_getElem (by omega)]
  rfl
def bNN1 : List Sx := [.ifS (.or (.not (.call "is_rod" [.var 3, .var 6])) (.and (.cmp .Gt (.var 5) (.int 0)) (.cmp .LtE (.slice (.var 6) none (some (.int 2))) (.slice (.idx (.var 4) (.bin .Sub (.var 5) (.int 1))) none (some (.int 2)))))) [.never] []]
def bNN2 : List Sx := [.ifS (.cmp .NotEq (.cmp .In (.var 7) (.var 1)) (.cmp .In (.var 8) (.var 1))) [.app 1 .pk (.ite (.cmp .In (.var 7) (.var 1)) (.var 8) (.var 7))] []]
theorem nn1_step (F : Orc) (h1 : OkIsRod F) {n : Nat} {rods : List Rod} (N : NetOk n rods) (i : Nat) (r : Rod) (hr : rods[i]? = some r) (x0 x1 x2 x7 x8 x9 : Sl) (w : Option W) :
    JS F bNN1 [x0, x1, x2, .fr (.int (n : Int)), .fr (.tup (rods.map rodD)), .fr (.int (i : Int)), .fr (rodD r), x7, x8, x9] w (.nx [x0, x1, x2, .fr (.int (n : Int)), .fr (.tup (rods.map rodD)), .fr (.int (i : Int)), .fr (rodD r), x7, x8, x9] w) := by
  obtain ⟨a1, a2, a3, a4⟩ := N.rod r (List.mem_of_getElem? hr)
  obtain ⟨hi, e⟩ := List.getElem?_eq_some_iff.mp hr
  unfold bNN1
  apply jst_skip
  repeat' (first | exact jev_var rfl | exact jev_int | exact jev_glo | exact jev_bl | exact jev_non | exact jev_str | exact h1 n r a1 a2 a3 a4 | apply cut_rod | exact idx_before _ _ hi (by assumption) | apply le_pair | apply jev_bin | apply jev_cmp | apply jev_and | apply jev_or | apply jev_not | apply jev_idx | apply jev_chain | apply jev_chain3 | apply jev_iteI | apply jev_tup | apply jev_lst | apply jev_slice | apply jev_call | apply jev_blt | apply jev_isi2 | apply jev_isi | apply jev_neg | exact jea_nil | apply jea_cons | exact jeo_none | apply jeo_some | exact jec_none | apply jec_some | apply jev_compRA | apply jev_compR | apply jev_compPA | apply jev_compP | refine' jt rfl ?_ ?_ ?_ ?_ | refine' ju rfl ?_ ?_ | apply jem_0 | apply jem_pk | apply jem_al | apply jem_fz | apply jes_0 | apply jes_pk | apply jes_fz | apply jst_set | apply jst_new1 | apply jst_expr | apply jst_ret | apply jst_unp | exact jst_nil | apply jst_app | apply jst_par | exact jeps_nil | apply jeps_cons | apply jep_fr | apply jep_l | exact jep_d | intro _ | apply opD_add | apply opD_sub | apply cmpD_lt | apply cmpD_le | apply cmpD_gt | apply cmpD_ge | apply cmpD_eqI | apply cmpD_neI | (apply idx_rowT; first | assumption | omega) | (apply idx_tblL; first | assumption | omega) | (apply idx_row; first | assumption | omega) | exact rfl | assumption | (simp only [List.length_cons, List.length_nil, List.length_map, List.length_range]; omega))
  simp only [Bool.not_true, Bool.false_or, Bool.and_eq_false_iff, decide_eq_false_iff_not, Bool.not_eq_false', decide_eq_true_eq]
  by_cases c : 0 < i
  · right
    have hp : i - 1 < rods.length := by omega
    have := List.pairwise_iff_getElem.mp N.srt (i - 1) i hp hi (by omega)
    rw [e] at this
    rw [List.getD_eq_getElem?_getD, List.getElem?_eq_getElem hp]
    show _ ∨ _
    simp only [Option.getD_some]
    omega
  · left; omega
/-- the places that are seen -/
structure Seen (n : Nat) (ps : List Nat) : Prop where
  nd : ps.Nodup
  lt : ∀ q ∈ ps, q < n
theorem Seen.len {n : Nat} {ps : List Nat} (S : Seen n ps) : ps.length ≤ n := by
  have := S.nd.length_le_of_subset (l₂ := List.range n) fun q hq => List.mem_range.mpr (S.lt q hq)
  rwa [List.length_range] at this
theorem nn2_step (F : Orc) {n : Nat} (hn : n ≤ 8) (r : Rod) (a1 : r.1 < n) (a2 : r.2.1 < n) (ps : List Nat) (S : Seen n ps) (x0 x2 x3 x4 x5 x6 : Sl) (w : Option W) :
    ∃ ps', JS F bNN2 [x0, .l (ps.map natD), x2, x3, x4, x5, x6, .fr (.int (r.1 : Int)), .fr (.int (r.2.1 : Int)), .fr (.int r.2.2)] w (.nx [x0, .l (ps'.map natD), x2, x3, x4, x5, x6, .fr (.int (r.1 : Int)), .fr (.int (r.2.1 : Int)), .fr (.int r.2.2)] w)
      ∧ Seen n ps' ∧ (∀ q ∈ ps, q ∈ ps') ∧ (r.1 ∈ ps → r.2.1 ∈ ps') := by
  have hl : (ps.map natD).length < 60000 := by
    rw [List.length_map]
    have := S.len
    omega
  have add : ∀ q, q < n → q ∉ ps → Seen n (ps ++ [q]) := fun q hq hq2 => by
    refine ⟨?_, fun x hx => ?_⟩
    · rw [List.nodup_append]
      refine ⟨S.nd, by simp, fun x hx y hy => ?_⟩
      rw [List.mem_singleton] at hy
      subst hy
      intro z; subst z; exact hq2 hx
    · rcases List.mem_append.mp hx with z | z
      · exact S.lt x z
      · rw [List.mem_singleton] at z; omega
  have e : ∀ q : Nat, ps.map natD ++ [D.int (q : Int)] = (ps ++ [q]).map natD := fun q => by rw [List.map_append]; rfl
  unfold bNN2
  by_cases c1 : r.1 ∈ ps <;> by_cases c2 : r.2.1 ∈ ps
  · refine ⟨ps, ?_, S, fun q h => h, fun _ => c2⟩
    apply jst_skip
    repeat' (first | exact jev_var rfl | exact jev_int | exact jev_glo | exact jev_bl | exact jev_non | exact jev_str | apply cmpD_inN | apply cmpD_neB | apply jev_bin | apply jev_cmp | apply jev_and | apply jev_or | apply jev_not | apply jev_idx | apply jev_chain | apply jev_chain3 | apply jev_iteI | apply jev_tup | apply jev_lst | apply jev_slice | apply jev_call | apply jev_blt | apply jev_isi2 | apply jev_isi | apply jev_neg | exact jea_nil | apply jea_cons | exact jeo_none | apply jeo_some | exact jec_none | apply jec_some | apply jev_compRA | apply jev_compR | apply jev_compPA | apply jev_compP | refine' jt rfl ?_ ?_ ?_ ?_ | refine' ju rfl ?_ ?_ | apply jem_0 | apply jem_pk | apply jem_al | apply jem_fz | apply jes_0 | apply jes_pk | apply jes_fz | apply jst_set | apply jst_new1 | apply jst_expr | apply jst_ret | apply jst_unp | exact jst_nil | apply jst_app | apply jst_par | exact jeps_nil | apply jeps_cons | apply jep_fr | apply jep_l | exact jep_d | intro _ | apply opD_add | apply opD_sub | apply cmpD_lt | apply cmpD_le | apply cmpD_gt | apply cmpD_ge | apply cmpD_eqI | apply cmpD_neI | (apply idx_rowT; first | assumption | omega) | (apply idx_tblL; first | assumption | omega) | (apply idx_row; first | assumption | omega) | exact rfl | assumption | (simp only [List.length_cons, List.length_nil, List.length_map, List.length_range]; omega))
    simp [c1, c2]
  · refine ⟨ps ++ [r.2.1], ?_, add _ a2 c2, fun q h => List.mem_append_left _ h, fun _ => List.mem_append_right _ (by simp)⟩
    rw [← e]
    apply jst_if
    repeat' (first | exact jev_var rfl | exact jev_int | exact jev_glo | exact jev_bl | exact jev_non | exact jev_str | apply cmpD_inN | apply cmpD_neB | exact hl | apply jev_bin | apply jev_cmp | apply jev_and | apply jev_or | apply jev_not | apply jev_idx | apply jev_chain | apply jev_chain3 | apply jev_iteI | apply jev_tup | apply jev_lst | apply jev_slice | apply jev_call | apply jev_blt | apply jev_isi2 | apply jev_isi | apply jev_neg | exact jea_nil | apply jea_cons | exact jeo_none | apply jeo_some | exact jec_none | apply jec_some | apply jev_compRA | apply jev_compR | apply jev_compPA | apply jev_compP | refine' jt rfl ?_ ?_ ?_ ?_ | refine' ju rfl ?_ ?_ | apply jem_0 | apply jem_pk | apply jem_al | apply jem_fz | apply jes_0 | apply jes_pk | apply jes_fz | apply jst_set | apply jst_new1 | apply jst_expr | apply jst_ret | apply jst_unp | exact jst_nil | apply jst_app | apply jst_par | exact jeps_nil | apply jeps_cons | apply jep_fr | apply jep_l | exact jep_d | intro _ | apply opD_add | apply opD_sub | apply cmpD_lt | apply cmpD_le | apply cmpD_gt | apply cmpD_ge | apply cmpD_eqI | apply cmpD_neI | (apply idx_rowT; first | assumption | omega) | (apply idx_tblL; first | assumption | omega) | (apply idx_row; first | assumption | omega) | exact rfl | assumption | (simp only [List.length_cons, List.length_nil, List.length_map, List.length_range]; omega))
    · simp only [c1, decide_true, if_true]
      exact jst_nil
    · rename_i z
      simp [c1, c2] at z
  · refine ⟨ps ++ [r.1], ?_, add _ a1 c1, fun q h => List.mem_append_left _ h, fun z => absurd z c1⟩
    rw [← e]
    apply jst_if
    repeat' (first | exact jev_var rfl | exact jev_int | exact jev_glo | exact jev_bl | exact jev_non | exact jev_str | apply cmpD_inN | apply cmpD_neB | exact hl | apply jev_bin | apply jev_cmp | apply jev_and | apply jev_or | apply jev_not | apply jev_idx | apply jev_chain | apply jev_chain3 | apply jev_iteI | apply jev_tup | apply jev_lst | apply jev_slice | apply jev_call | apply jev_blt | apply jev_isi2 | apply jev_isi | apply jev_neg | exact jea_nil | apply jea_cons | exact jeo_none | apply jeo_some | exact jec_none | apply jec_some | apply jev_compRA | apply jev_compR | apply jev_compPA | apply jev_compP | refine' jt rfl ?_ ?_ ?_ ?_ | refine' ju rfl ?_ ?_ | apply jem_0 | apply jem_pk | apply jem_al | apply jem_fz | apply jes_0 | apply jes_pk | apply jes_fz | apply jst_set | apply jst_new1 | apply jst_expr | apply jst_ret | apply jst_unp | exact jst_nil | apply jst_app | apply jst_par | exact jeps_nil | apply jeps_cons | apply jep_fr | apply jep_l | exact jep_d | intro _ | apply opD_add | apply opD_sub | apply cmpD_lt | apply cmpD_le | apply cmpD_gt | apply cmpD_ge | apply cmpD_eqI | apply cmpD_neI | (apply idx_rowT; first | assumption | omega) | (apply idx_tblL; first | assumption | omega) | (apply idx_row; first | assumption | omega) | exact rfl | assumption | (simp only [List.length_cons, List.length_nil, List.length_map, List.length_range]; omega))
    · simp only [c1, decide_false, Bool.false_eq_true, if_false]
      exact jst_nil
    · rename_i z
      simp [c1, c2] at z
  · refine ⟨ps, ?_, S, fun q h => h, fun z => absurd z c1⟩
    apply jst_skip
    repeat' (first | exact jev_var rfl | exact jev_int | exact jev_glo | exact jev_bl | exact jev_non | exact jev_str | apply cmpD_inN | apply cmpD_neB | apply jev_bin | apply jev_cmp | apply jev_and | apply jev_or | apply jev_not | apply jev_idx | apply jev_chain | apply jev_chain3 | apply jev_iteI | apply jev_tup | apply jev_lst | apply jev_slice | apply jev_call | apply jev_blt | apply jev_isi2 | apply jev_isi | apply jev_neg | exact jea_nil | apply jea_cons | exact jeo_none | apply jeo_some | exact jec_none | apply jec_some | apply jev_compRA | apply jev_compR | apply jev_compPA | apply jev_compP | refine' jt rfl ?_ ?_ ?_ ?_ | refine' ju rfl ?_ ?_ | apply jem_0 | apply jem_pk | apply jem_al | apply jem_fz | apply jes_0 | apply jes_pk | apply jes_fz | apply jst_set | apply jst_new1 | apply jst_expr | apply jst_ret | apply jst_unp | exact jst_nil | apply jst_app | apply jst_par | exact jeps_nil | apply jeps_cons | apply jep_fr | apply jep_l | exact jep_d | intro _ | apply opD_add | apply opD_sub | apply cmpD_lt | apply cmpD_le | apply cmpD_gt | apply cmpD_ge | apply cmpD_eqI | apply cmpD_neI | (apply idx_rowT; first | assumption | omega) | (apply idx_tblL; first | assumption | omega) | (apply idx_row; first | assumption | omega) | exact rfl | assumption | (simp only [List.length_cons, List.length_nil, List.length_map, List.length_range]; omega))
    simp [c1, c2]
def bNN3 : List Sx := [.forS (.t [.n 7, .n 8, .n 9]) .plain (.fz []) [.var 4] bNN2]
theorem nn3_step (F : Orc) {n : Nat} {rods : List Rod} (N : NetOk n rods) (ps : List Nat) (S : Seen n ps) (x0 x2 x3 x5 x6 x7 x8 x9 : Sl) (w : Option W) :
    ∃ ps' x7' x8' x9', JS F bNN3 [x0, .l (ps.map natD), x2, x3, .fr (.tup (rods.map rodD)), x5, x6, x7, x8, x9] w (.nx [x0, .l (ps'.map natD), x2, x3, .fr (.tup (rods.map rodD)), x5, x6, x7', x8', x9'] w)
      ∧ Seen n ps' ∧ (∀ q ∈ ps, q ∈ ps') ∧ ∀ r ∈ rods, r.1 ∈ ps → r.2.1 ∈ ps' := by
  obtain ⟨s', w', e, ps', x7', x8', x9', rfl, rfl, h1, h2, h3⟩ := jl_map (F := F) (tg := .t [.n 7, .n 8, .n 9]) (body := bNN2) rods rodD
    (fun k s w2 => ∃ ps' x7' x8' x9', s = [x0, .l (ps'.map natD), x2, x3, .fr (.tup (rods.map rodD)), x5, x6, x7', x8', x9'] ∧ w2 = w ∧ Seen n ps' ∧ (∀ q ∈ ps, q ∈ ps') ∧ ∀ x r, x < k → rods[x]? = some r → r.1 ∈ ps → r.2.1 ∈ ps')
    (s := [x0, .l (ps.map natD), x2, x3, .fr (.tup (rods.map rodD)), x5, x6, x7, x8, x9]) (w := w)
    ⟨ps, x7, x8, x9, rfl, rfl, S, fun q h => h, fun x r hx => absurd hx (Nat.not_lt_zero _)⟩
    (fun k r s w2 hk ⟨ps1, y7, y8, y9, hs, hw, S1, h1, h2⟩ => by
      subst hs hw
      obtain ⟨b1, b2, b3, b4⟩ := N.rod r (List.mem_of_getElem? hk)
      obtain ⟨ps2, e, S2, h3, h4⟩ := nn2_step F N.hi r (by omega) b2 ps1 S1 x0 x2 x3 (.fr (.tup (rods.map rodD))) x5 x6 w2
      refine ⟨_, _, _, rfl, e, ps2, _, _, _, rfl, rfl, S2, fun q hq => h3 q (h1 q hq), fun x r' hx hr' hm => ?_⟩
      by_cases c : x = k
      · subst c
        rw [hk] at hr'
        cases hr'
        exact h4 (h1 _ hm)
      · exact h3 _ (h2 x r' (by omega) hr' hm))
  refine ⟨ps', x7', x8', x9', ?_, h1, h2, fun r hr hm => ?_⟩
  · unfold bNN3
    refine jst_for (jes_0 (jea_cons (jev_var rfl) jea_nil)) (its := rods.map rodD) rfl e jst_nil
  · obtain ⟨x, hx, ex⟩ := List.mem_iff_getElem.mp hr
    exact h3 x r hx (by rw [List.getElem?_eq_getElem hx, ex]) hm
def b_need_net : List Sx := [.ifS (.or (.not (.call "tuple_of" [.var 0, .int 2, .int 2])) (.or (.not (.call "within" [.idx (.var 0) (.int 0), .int 1, .glo "MOST_PLACES" 8])) (.not (.call "tuple_of" [.idx (.var 0) (.int 1), .int 0, .int 28])))) [.never] [], .unp (.t [.n 3, .n 4]) (.fz []) (.var 0), .forS (.t [.n 5, .n 6]) .enum (.fz []) [.var 4] [.ifS (.or (.not (.call "is_rod" [.var 3, .var 6])) (.and (.cmp .Gt (.var 5) (.int 0)) (.cmp .LtE (.slice (.var 6) none (some (.int 2))) (.slice (.idx (.var 4) (.bin .Sub (.var 5) (.int 1))) none (some (.int 2)))))) [.never] []], .new1 1 (.fz []) (.lst [.int 0]), .forS (.n 2) .range (.fz []) [.var 3] [.forS (.t [.n 7, .n 8, .n 9]) .plain (.fz []) [.var 4] [.ifS (.cmp .NotEq (.cmp .In (.var 7) (.var 1)) (.cmp .In (.var 8) (.var 1))) [.app 1 .pk (.ite (.cmp .In (.var 7) (.var 1)) (.var 8) (.var 7))] []]], .ifS (.cmp .Lt (.blt .len [.var 1]) (.var 3)) [.never] []]
theorem need_net_eq : b_need_net = [.ifS (.or (.not (.call "tuple_of" [.var 0, .int 2, .int 2])) (.or (.not (.call "within" [.idx (.var 0) (.int 0), .int 1, .glo "MOST_PLACES" 8])) (.not (.call "tuple_of" [.idx (.var 0) (.int 1), .int 0, .int 28])))) [.never] [], .unp (.t [.n 3, .n 4]) (.fz []) (.var 0), .forS (.t [.n 5, .n 6]) .enum (.fz []) [.var 4] bNN1, .new1 1 (.fz []) (.lst [.int 0]), .forS (.n 2) .range (.fz []) [.var 3] bNN3, .ifS (.cmp .Lt (.blt .len [.var 1]) (.var 3)) [.never] []] := rfl
theorem NetOk.few {n : Nat} {rods : List Rod} (N : NetOk n rods) : rods.length ≤ 28 := by
  have h1 : (rods.map fun r => r.1 * 8 + r.2.1).Nodup := by
    rw [List.Nodup, List.pairwise_map]
    refine N.srt.imp_of_mem fun {a b} ha hb hab => ?_
    have := N.rod a ha
    have := N.rod b hb
    have := N.hi
    omega
  have h2 := h1.length_le_of_subset (l₂ := (List.range 8).flatMap fun b => (List.range b).map fun a => a * 8 + b) fun x hx => by
    obtain ⟨r, hr, rfl⟩ := List.mem_map.mp hx
    have := N.rod r hr
    have := N.hi
    exact List.mem_flatMap.mpr ⟨r.2.1, List.mem_range.mpr (by omega), List.mem_map.mpr ⟨r.1, List.mem_range.mpr (by omega), rfl⟩⟩
  rw [List.length_map] at h2
  exact Nat.le_trans h2 (by decide)
theorem need_net_run (F : Orc) (h1 : OkTupleOf F) (h2 : OkWithin F) (h3 : OkIsRod F) {n : Nat} {rods : List Rod} (N : NetOk n rods) :
    (rss F b_need_net [.fr (netD n rods), .un, .un, .un, .un, .un, .un, .un, .un, .un] none).bind resD = some (.non, none) := by
  have hn := N.hi
  have hn1 := N.lo
  have few := N.few
  obtain ⟨s1, w1, e1, x5, x6, rfl, rfl⟩ := jl_inv (F := F) (tg := .t [.n 5, .n 6]) (body := bNN1) (enumD 0 (rods.map rodD))
    (fun k s w2 => ∃ x5 x6, s = [.fr (netD n rods), .un, .un, .fr (.int (n : Int)), .fr (.tup (rods.map rodD)), x5, x6, .un, .un, .un] ∧ w2 = none)
    (s := [.fr (netD n rods), .un, .un, .fr (.int (n : Int)), .fr (.tup (rods.map rodD)), .un, .un, .un, .un, .un]) (w := none)
    ⟨_, _, rfl, rfl⟩
    (fun k d s w2 hk ⟨y5, y6, hs, hw⟩ => by
      subst hs hw
      obtain ⟨r, hr, rfl⟩ := enum_rods _ _ _ _ hk
      rw [Nat.zero_add]
      exact ⟨_, _, _, rfl, nn1_step F h3 N k r hr _ _ _ _ _ _ _, _, _, rfl, rfl⟩)
  obtain ⟨s2, w2, e2, ps, y2, y7, y8, y9, rfl, rfl, S, h4⟩ := jl_rng (F := F) (tg := .n 2) (body := bNN3) n
    (fun k s w2 => ∃ ps x2 x7 x8 x9, s = [.fr (netD n rods), .l (ps.map natD), x2, .fr (.int (n : Int)), .fr (.tup (rods.map rodD)), x5, x6, x7, x8, x9] ∧ w2 = none ∧ Seen n ps ∧ ∀ q, q ≤ k → q < n → q ∈ ps)
    (s := [.fr (netD n rods), .l ([0].map natD), .un, .fr (.int (n : Int)), .fr (.tup (rods.map rodD)), x5, x6, .un, .un, .un]) (w := none)
    ⟨[0], _, _, _, _, rfl, rfl, ⟨by simp, fun q hq => by rw [List.mem_singleton] at hq; omega⟩, fun q hq _ => by rw [List.mem_singleton]; omega⟩
    (fun k s w2 hk ⟨ps, y2, y7, y8, y9, hs, hw, S, h4⟩ => by
      subst hs hw
      obtain ⟨ps', z7, z8, z9, e, S', h5, h6⟩ := nn3_step F N ps S (.fr (netD n rods)) (.fr (.int (k : Int))) (.fr (.int (n : Int))) x5 x6 y7 y8 y9 none
      refine ⟨_, _, _, rfl, e, _, _, _, _, _, rfl, rfl, S', fun q hq hqn => ?_⟩
      by_cases c : q ≤ k
      · exact h5 q (h4 q c hqn)
      · obtain ⟨t, l, t1, t2⟩ := N.con q (by omega) hqn
        exact h6 _ t2 (h4 t (by omega) (by omega)))
  have hlen : n ≤ ps.length := by
    have := (List.nodup_range (n := n)).length_le_of_subset (l₂ := ps) fun q hq => h4 q (Nat.le_of_lt (List.mem_range.mp hq)) (List.mem_range.mp hq)
    rwa [List.length_range] at this
  apply jrun_nx
  rw [need_net_eq]
  apply jst_skip
  repeat' (first | exact jev_var rfl | exact jev_int | exact jev_glo | exact jev_bl | exact jev_non | exact jev_str | exact tup_t h1 (xs := [.int (n : Int), .tup (rods.map rodD)]) (Int.le_refl 2) (Int.le_refl 2) | exact within_t h2 (by omega) (by omega) | exact tup_t h1 (by rw [List.length_map]; omega) (by rw [List.length_map]; omega) | apply jev_bin | apply jev_cmp | apply jev_and | apply jev_or | apply jev_not | apply jev_idx | apply jev_chain | apply jev_chain3 | apply jev_iteI | apply jev_tup | apply jev_lst | apply jev_slice | apply jev_call | apply jev_blt | apply jev_isi2 | apply jev_isi | apply jev_neg | exact jea_nil | apply jea_cons | exact jeo_none | apply jeo_some | exact jec_none | apply jec_some | apply jev_compRA | apply jev_compR | apply jev_compPA | apply jev_compP | refine' jt rfl ?_ ?_ ?_ ?_ | refine' ju rfl ?_ ?_ | apply jem_0 | apply jem_pk | apply jem_al | apply jem_fz | apply jes_0 | apply jes_pk | apply jes_fz | apply jst_set | apply jst_new1 | apply jst_expr | apply jst_ret | apply jst_unp | exact jst_nil | apply jst_app | apply jst_par | exact jeps_nil | apply jeps_cons | apply jep_fr | apply jep_l | exact jep_d | intro _ | apply opD_add | apply opD_sub | apply cmpD_lt | apply cmpD_le | apply cmpD_gt | apply cmpD_ge | apply cmpD_eqI | apply cmpD_neI | (apply idx_rowT; first | assumption | omega) | (apply idx_tblL; first | assumption | omega) | (apply idx_row; first | assumption | omega) | exact rfl | assumption | (simp only [List.length_cons, List.length_nil, List.length_map, List.length_range]; omega))
  refine jst_for (jes_0 (jea_cons (jev_var rfl) jea_nil)) (its := enumD 0 (rods.map rodD)) rfl e1 ?_
  refine jst_new1 (jem_0 (jev_lst (jea_cons jev_int jea_nil) (by decide))) rfl ?_
  refine jst_for (jes_0 (jea_cons (jev_var rfl) jea_nil)) (rngI n (by omega)) e2 ?_
  apply jst_skip
  repeat' (first | exact jev_var rfl | exact jev_int | exact jev_glo | exact jev_bl | exact jev_non | exact jev_str | apply jev_bin | apply jev_cmp | apply jev_and | apply jev_or | apply jev_not | apply jev_idx | apply jev_chain | apply jev_chain3 | apply jev_iteI | apply jev_tup | apply jev_lst | apply jev_slice | apply jev_call | apply jev_blt | apply jev_isi2 | apply jev_isi | apply jev_neg | exact jea_nil | apply jea_cons | exact jeo_none | apply jeo_some | exact jec_none | apply jec_some | apply jev_compRA | apply jev_compR | apply jev_compPA | apply jev_compP | refine' jt rfl ?_ ?_ ?_ ?_ | refine' ju rfl ?_ ?_ | apply jem_0 | apply jem_pk | apply jem_al | apply jem_fz | apply jes_0 | apply jes_pk | apply jes_fz | apply jst_set | apply jst_new1 | apply jst_expr | apply jst_ret | apply jst_unp | exact jst_nil | apply jst_app | apply jst_par | exact jeps_nil | apply jeps_cons | apply jep_fr | apply jep_l | exact jep_d | intro _ | apply opD_add | apply opD_sub | apply cmpD_lt | apply cmpD_le | apply cmpD_gt | apply cmpD_ge | apply cmpD_eqI | apply cmpD_neI | (apply idx_rowT; first | assumption | omega) | (apply idx_tblL; first | assumption | omega) | (apply idx_row; first | assumption | omega) | exact rfl | assumption | (simp only [List.length_cons, List.length_nil, List.length_map, List.length_range]; omega))
  rw [List.length_map, decide_eq_false_iff_not]
  omega
end Lt

set_option Elab.async false
set_option linter.all false
set_option maxRecDepth 100000
set_option maxHeartbeats 400000
/-! LtRd: plain Lean: light. -/
namespace Lt
open PySem PySem.Spec PyProof.Rows L2
/-! ### plain data: numbers, truth values, None, tuples and lists of these -/
inductive Pl : Nat → D → Prop
  | int (i : Int) (m : Nat) : Pl m (.int i)
  | bl (b : Bool) (m : Nat) : Pl m (.bl b)
  | non (m : Nat) : Pl m .non
  | tup {m : Nat} {xs : List D} : (∀ x ∈ xs, Pl m x) → xs.length < 50000 → Pl (m + 1) (.tup xs)
  | lst {m : Nat} {xs : List D} : (∀ x ∈ xs, Pl m x) → xs.length < 50000 → Pl (m + 1) (.lst xs)
theorem pl_all {m : Nat} {xs : List D} (ih : ∀ x ∈ xs, x.noDict = true ∧ x.toP.canLay0 = true ∧ x.toP.depth ≤ m ∧ PyData.eqv x.toP x.toP = true) :
    D.noDicts xs = true ∧ PyData.canLayAll0 (D.toPs xs) = true ∧ PyData.depthAll (D.toPs xs) ≤ m ∧ PyData.eqvAll (D.toPs xs) (D.toPs xs) = true := by
  induction xs with
  | nil => exact ⟨rfl, rfl, Nat.zero_le _, rfl⟩
  | cons a l ih2 =>
    obtain ⟨a1, a2, a3, a4⟩ := ih a (by simp)
    obtain ⟨b1, b2, b3, b4⟩ := ih2 fun x hx => ih x (by simp [hx])
    refine ⟨?_, ?_, ?_, ?_⟩
    · rw [D.noDicts, a1, b1]; rfl
    · rw [D.toPs, PyData.canLayAll0, a2, b2]; rfl
    · rw [D.toPs, PyData.depthAll]; exact Nat.max_le.mpr ⟨a3, b3⟩
    · rw [D.toPs, PyData.eqvAll, a4, b4]; rfl
theorem Pl.facts {m : Nat} {d : D} (h : Pl m d) : d.noDict = true ∧ d.toP.canLay0 = true ∧ d.toP.depth ≤ m ∧ PyData.eqv d.toP d.toP = true := by
  induction h with
  | int i m => exact ⟨rfl, rfl, Nat.zero_le _, by show (i == i) = true; simp⟩
  | bl b m => exact ⟨rfl, rfl, Nat.zero_le _, by show (b == b) = true; simp⟩
  | non m => exact ⟨rfl, rfl, Nat.zero_le _, rfl⟩
  | tup _ _ ih =>
    obtain ⟨a1, a2, a3, a4⟩ := pl_all ih
    refine ⟨by rw [D.noDict]; exact a1, by rw [D.toP, PyData.canLay0]; exact a2, by rw [D.toP, PyData.depth]; omega, by rw [D.toP, PyData.eqv]; exact a4⟩
  | lst _ _ ih =>
    obtain ⟨a1, a2, a3, a4⟩ := pl_all ih
    refine ⟨by rw [D.noDict]; exact a1, by rw [D.toP, PyData.canLay0]; exact a2, by rw [D.toP, PyData.depth]; omega, by rw [D.toP, PyData.eqv]; exact a4⟩
theorem Pl.ok {m : Nat} {d : D} (h : Pl m d) (hm : m ≤ 64) : eqOk d = true := by
  obtain ⟨a1, a2, a3, _⟩ := h.facts
  unfold eqOk SeqAt.shaped
  rw [a1, a2, Bool.true_and, Bool.true_and, decide_eq_true_eq]
  omega
theorem Pl.eq_self {m : Nat} {d : D} (h : Pl m d) : eqD d d = true := h.facts.2.2.2
theorem Pl.cmp_eq {m : Nat} {d : D} (h : Pl m d) (hm : m ≤ 64) : cmpD .Eq d d = some true := by
  show (if (eqOk d && eqOk d) = true then some (eqD d d) else none) = _
  rw [h.ok hm, h.eq_self]; rfl
theorem Pl.cmp_ne {m : Nat} {d : D} (h : Pl m d) (hm : m ≤ 64) : cmpD .NotEq d d = some false := by
  show (if (eqOk d && eqOk d) = true then some (!eqD d d) else none) = _
  rw [h.ok hm, h.eq_self]; rfl
theorem pl_nat (l : List Nat) : ∀ x ∈ l.map natD, Pl 0 x := fun x hx => by
  obtain ⟨k, _, rfl⟩ := List.mem_map.mp hx
  exact .int _ _
theorem pl_row (n : Nat) (h : Nat → Int) : ∀ x ∈ rowD n h, Pl 0 x := fun x hx => by
  obtain ⟨k, _, rfl⟩ := List.mem_map.mp hx
  exact .int _ _
/-- for j in range(n): if c: found.append(m) -/
theorem jl_filter {F : Orc} {w : Option W} {i j : Nat} {c : E} {md : Md} {m : E} {s0 : Sls} {ds0 : List D} {n : Nat} {p : Nat → Bool} {g : Nat → D} (hi : s0[i]? = some (.l ds0)) (hij : i ≠ j) (hj : j < s0.length) (hl : ds0.length + n < 60000)
    (h : ∀ (k : Nat) (ds : List D), k < n → (∃ t, JE F c (vwS (fzA ((s0.set j (.fr (.int (k : Int)))).set i (.l ds)))) w (.bl t) w ∧ t = p k) ∧ (p k = true → ∃ d, JM F m md ((s0.set j (.fr (.int (k : Int)))).set i (.l ds)) w d ((s0.set j (.fr (.int (k : Int)))).set i (.l ds)) w ∧ d = g k)) :
    ∃ x, JL F (.n j) [.ifS c [.app i md m] []] ((List.range n).map natD) s0 w (.nx ((s0.set j x).set i (.l (ds0 ++ ((List.range n).filter p).map g))) w) := by
  obtain ⟨y, hy⟩ : ∃ y, s0[j]? = some y := ⟨_, List.getElem?_eq_getElem hj⟩
  have hil : i < s0.length := by
    rcases Nat.lt_or_ge i s0.length with z | z
    · exact z
    · rw [List.getElem?_eq_none z] at hi; cases hi
  have sj : s0.set j y = s0 := by
    apply List.ext_getElem?
    intro q
    by_cases e : j = q
    · subst e; rw [List.getElem?_set_self hj, hy]
    · rw [List.getElem?_set_ne e]
  have si : s0.set i (.l ds0) = s0 := by
    apply List.ext_getElem?
    intro q
    by_cases e : i = q
    · subst e; rw [List.getElem?_set_self hil, hi]
    · rw [List.getElem?_set_ne e]
  obtain ⟨s', w', e, x, rfl, rfl⟩ := jl_rng (F := F) (tg := .n j) (body := [.ifS c [.app i md m] []]) n
    (fun k s w2 => ∃ x, s = (s0.set j x).set i (.l (ds0 ++ ((List.range k).filter p).map g)) ∧ w2 = w) (s := s0) (w := w)
    ⟨y, by rw [sj]; simp [si], rfl⟩
    (fun k s w2 hk ⟨x, hs, hw⟩ => by
      subst hs hw
      have hset : ∀ ds : List D, (((s0.set j x).set i (.l ds)).set j (.fr (.int (k : Int)))) = (s0.set j (.fr (.int (k : Int)))).set i (.l ds) := fun ds => by
        rw [List.set_comm _ _ hij, List.set_set]
      obtain ⟨⟨t, h1, ht⟩, h2⟩ := h k (ds0 ++ ((List.range k).filter p).map g) hk
      have hlen : (ds0 ++ ((List.range k).filter p).map g).length < 60000 := by
        rw [List.length_append, List.length_map]
        have := List.length_filter_le p (List.range k)
        rw [List.length_range] at this
        omega
      refine ⟨(s0.set j (.fr (.int (k : Int)))).set i (.l (ds0 ++ ((List.range k).filter p).map g)), _, _, ?_, ?_, .fr (.int (k : Int)), rfl, rfl⟩
      · unfold bindS
        rw [if_pos (by simpa using hj), hset]
      · rw [List.range_succ, List.filter_append, List.map_append]
        refine jst_if h1 (fun ht2 => ?_) (fun ht2 => ?_)
        · rw [ht] at ht2
          obtain ⟨d, h3, hd⟩ := h2 ht2
          refine jst_app h3 (ds := ds0 ++ ((List.range k).filter p).map g) (List.getElem?_set_self (by simpa using hil)) hlen ?_ jst_nil
          rw [List.set_set, hd, List.filter_cons_of_pos ht2]
          simp
        · rw [ht] at ht2
          rw [List.filter_cons_of_neg (by rw [ht2]; decide)]
          simp only [List.filter_nil, List.map_nil, List.append_nil]
          exact jst_nil)
  exact ⟨x, e⟩
def b_hiders (need_both : PySem.Str) : List Sx := [.set 3 (.fz []) (.call need_both [.var 0, .var 1]), .expr (.fz []) (.call "need_place" [.var 0, .var 2]), .ret (.blt .tuple [.comp [4] (.n 4) .range [.idx (.var 0) (.int 0)] (some (.and (.cmp .NotEq (.var 4) (.var 2)) (.cmp .GtE (.bin .Sub (.idx (.var 1) (.var 4)) (.idx (.idx (.var 3) (.var 4)) (.var 2))) (.idx (.var 1) (.var 2))))) (.var 4)])]
theorem hiders_run (F : Orc) {nb : PySem.Str} (h1 : OkNeedBoth nb F) (h2 : OkNeedPlace F) {n rods f h} (N : NetOk n rods) (d : IsDist n rods f) (r : RowIn n 99 h) {p : Nat} (hp : p < n) :
    (rss F (b_hiders nb) [.fr (netD n rods), .fr (rowT n h), .fr (.int (p : Int)), .un, .un] none).bind resD = some (plsT (hidL n f h p), none) := by
  have hn := N.hi
  apply jrun_to
  unfold b_hiders
  repeat' (first | exact jev_var rfl | exact jev_int | exact jev_glo | exact jev_bl | exact jev_non | exact jev_str | exact h1 _ _ _ _ N d r | exact h2 _ _ _ hp | omega | apply jev_bin | apply jev_cmp | apply jev_and | apply jev_or | apply jev_not | apply jev_idx | apply jev_chain | apply jev_chain3 | apply jev_iteI | apply jev_tup | apply jev_lst | apply jev_slice | apply jev_call | apply jev_blt | apply jev_isi2 | apply jev_isi | apply jev_neg | exact jea_nil | apply jea_cons | exact jeo_none | apply jeo_some | exact jec_none | apply jec_some | apply jev_compRA | apply jev_compR | apply jev_compPA | apply jev_compP | refine' jt rfl ?_ ?_ ?_ ?_ | refine' ju rfl ?_ ?_ | apply jem_0 | apply jem_pk | apply jem_al | apply jem_fz | apply jes_0 | apply jes_pk | apply jes_fz | apply jst_set | apply jst_new1 | apply jst_expr | apply jst_ret | apply jst_unp | exact jst_nil | apply jst_app | apply jst_par | exact jeps_nil | apply jeps_cons | apply jep_fr | apply jep_l | exact jep_d | intro _ | ((with_reducible apply nrmS); simp only [List.set_cons_zero, List.set_cons_succ]; exact rfl) | apply opD_add | apply opD_sub | apply cmpD_lt | apply cmpD_le | apply cmpD_gt | apply cmpD_ge | apply cmpD_eqI | apply cmpD_neI | (apply idx_rowT; first | assumption | omega) | (apply idx_tblL; first | assumption | omega) | (apply idx_row; first | assumption | omega) | exact rfl | assumption | (simp only [List.length_cons, List.length_nil, List.length_map, List.length_range]; omega))
def b_lit_of : List Sx := [.par [⟨3, .fr, (.fz []), (.blt .len [.var 1])⟩, ⟨4, .l, (.fz []), (.lst [])⟩], .forS (.n 2) .range (.fz []) [.var 3] [.ifS (.not (.blt .any [.comp [5] (.n 5) .range [.var 3] none (.and (.cmp .NotEq (.var 5) (.var 2)) (.cmp .GtE (.bin .Sub (.idx (.var 1) (.var 5)) (.idx (.idx (.var 0) (.var 5)) (.var 2))) (.idx (.var 1) (.var 2))))])) [.app 4 (.fz []) (.var 2)] []], .ret (.blt .tuple [.var 4])]
theorem lit_of_run (F : Orc) {n : Nat} (hn : n ≤ 8) {f h} :
    (rss F b_lit_of [.fr (tblL n f), .fr (rowT n h), .un, .un, .un, .un] none).bind resD = some (plsT (litL n f h), none) := by
  apply jrun_to
  unfold b_lit_of
  have e0 : bltD .len [rowT n h] = some (.int (n : Int)) := by
    show some (D.int ((rowD n h).length : Int)) = _
    rw [rowD_len]
  obtain ⟨x, e⟩ := jl_filter (F := F) (w := none) (i := 4) (j := 2) (n := n) (p := litB n f h) (g := natD) (ds0 := []) (s0 := [.fr (tblL n f), .fr (rowT n h), .un, .fr (.int (n : Int)), .l [], .un])
    (c := .not (.blt .any [.comp [5] (.n 5) .range [.var 3] none (.and (.cmp .NotEq (.var 5) (.var 2)) (.cmp .GtE (.bin .Sub (.idx (.var 1) (.var 5)) (.idx (.idx (.var 0) (.var 5)) (.var 2))) (.idx (.var 1) (.var 2))))]))
    (md := .fz []) (m := .var 2) rfl (by decide) (by simp) (by simp; omega) (fun k ds hk => ⟨⟨_, by
      repeat' (first | exact jev_var rfl | exact jev_int | exact jev_glo | exact jev_bl | exact jev_non | exact jev_str | apply bltD_any | omega | apply jev_bin | apply jev_cmp | apply jev_and | apply jev_or | apply jev_not | apply jev_idx | apply jev_chain | apply jev_chain3 | apply jev_iteI | apply jev_tup | apply jev_lst | apply jev_slice | apply jev_call | apply jev_blt | apply jev_isi2 | apply jev_isi | apply jev_neg | exact jea_nil | apply jea_cons | exact jeo_none | apply jeo_some | exact jec_none | apply jec_some | apply jev_compRA | apply jev_compR | apply jev_compPA | apply jev_compP | refine' jt rfl ?_ ?_ ?_ ?_ | refine' ju rfl ?_ ?_ | apply jem_0 | apply jem_pk | apply jem_al | apply jem_fz | apply jes_0 | apply jes_pk | apply jes_fz | apply jst_set | apply jst_new1 | apply jst_expr | apply jst_ret | apply jst_unp | exact jst_nil | apply jst_app | apply jst_par | exact jeps_nil | apply jeps_cons | apply jep_fr | apply jep_l | exact jep_d | intro _ | ((with_reducible apply nrmS); simp only [List.set_cons_zero, List.set_cons_succ]; exact rfl) | apply opD_add | apply opD_sub | apply cmpD_lt | apply cmpD_le | apply cmpD_gt | apply cmpD_ge | apply cmpD_eqI | apply cmpD_neI | (apply idx_rowT; first | assumption | omega) | (apply idx_tblL; first | assumption | omega) | (apply idx_row; first | assumption | omega) | exact rfl | assumption | (simp only [List.length_cons, List.length_nil, List.length_map, List.length_range]; omega)), rfl⟩, fun _ => ⟨_, jem_0 (jev_var rfl), rfl⟩⟩)
  apply jst_par
  repeat' (first | exact jev_var rfl | exact jev_int | exact jev_glo | exact jev_bl | exact jev_non | exact jev_str | exact e0 | apply jev_bin | apply jev_cmp | apply jev_and | apply jev_or | apply jev_not | apply jev_idx | apply jev_chain | apply jev_chain3 | apply jev_iteI | apply jev_tup | apply jev_lst | apply jev_slice | apply jev_call | apply jev_blt | apply jev_isi2 | apply jev_isi | apply jev_neg | exact jea_nil | apply jea_cons | exact jeo_none | apply jeo_some | exact jec_none | apply jec_some | apply jev_compRA | apply jev_compR | apply jev_compPA | apply jev_compP | refine' jt rfl ?_ ?_ ?_ ?_ | refine' ju rfl ?_ ?_ | apply jem_0 | apply jem_pk | apply jem_al | apply jem_fz | apply jes_0 | apply jes_pk | apply jes_fz | apply jst_set | apply jst_new1 | apply jst_expr | apply jst_ret | apply jst_unp | exact jst_nil | apply jst_app | apply jst_par | exact jeps_nil | apply jeps_cons | apply jep_fr | apply jep_l | exact jep_d | intro _ | ((with_reducible apply nrmS); simp only [List.set_cons_zero, List.set_cons_succ]; exact rfl) | apply opD_add | apply opD_sub | apply cmpD_lt | apply cmpD_le | apply cmpD_gt | apply cmpD_ge | apply cmpD_eqI | apply cmpD_neI | (apply idx_rowT; first | assumption | omega) | (apply idx_tblL; first | assumption | omega) | (apply idx_row; first | assumption | omega) | exact rfl | assumption | (simp only [List.length_cons, List.length_nil, List.length_map, List.length_range]; omega))
  refine jst_for (jes_0 (jea_cons (jev_var rfl) jea_nil)) (rngI n (by omega)) e ?_
  repeat' (first | exact jev_var rfl | exact jev_int | exact jev_glo | exact jev_bl | exact jev_non | exact jev_str | apply jev_bin | apply jev_cmp | apply jev_and | apply jev_or | apply jev_not | apply jev_idx | apply jev_chain | apply jev_chain3 | apply jev_iteI | apply jev_tup | apply jev_lst | apply jev_slice | apply jev_call | apply jev_blt | apply jev_isi2 | apply jev_isi | apply jev_neg | exact jea_nil | apply jea_cons | exact jeo_none | apply jeo_some | exact jec_none | apply jec_some | apply jev_compRA | apply jev_compR | apply jev_compPA | apply jev_compP | refine' jt rfl ?_ ?_ ?_ ?_ | refine' ju rfl ?_ ?_ | apply jem_0 | apply jem_pk | apply jem_al | apply jem_fz | apply jes_0 | apply jes_pk | apply jes_fz | apply jst_set | apply jst_new1 | apply jst_expr | apply jst_ret | apply jst_unp | exact jst_nil | apply jst_app | apply jst_par | exact jeps_nil | apply jeps_cons | apply jep_fr | apply jep_l | exact jep_d | intro _ | ((with_reducible apply nrmS); simp only [List.set_cons_zero, List.set_cons_succ]; exact rfl) | apply opD_add | apply opD_sub | apply cmpD_lt | apply cmpD_le | apply cmpD_gt | apply cmpD_ge | apply cmpD_eqI | apply cmpD_neI | (apply idx_rowT; first | assumption | omega) | (apply idx_tblL; first | assumption | omega) | (apply idx_row; first | assumption | omega) | exact rfl | assumption | (simp only [List.length_cons, List.length_nil, List.length_map, List.length_range]; omega))
def OkLitOf (F : Orc) : Prop := ∀ (n : Nat) f h, n ≤ 8 → F "lit_of" false [tblL n f, rowT n h] none = some (plsT (litL n f h), none)
def b_lit (need_both : PySem.Str) : List Sx := [.ret (.call "lit_of" [.call need_both [.var 0, .var 1], .var 1])]
theorem lit_run (F : Orc) {nb : PySem.Str} (h1 : OkNeedBoth nb F) (h2 : OkLitOf F) {n rods f h} (N : NetOk n rods) (d : IsDist n rods f) (r : RowIn n 99 h) :
    (rss F (b_lit nb) [.fr (netD n rods), .fr (rowT n h)] none).bind resD = some (plsT (litL n f h), none) := by
  have hn := N.hi
  apply jrun_to
  unfold b_lit
  repeat' (first | exact jev_var rfl | exact jev_int | exact jev_glo | exact jev_bl | exact jev_non | exact jev_str | exact h1 _ _ _ _ N d r | exact h2 _ _ _ hn | apply jev_bin | apply jev_cmp | apply jev_and | apply jev_or | apply jev_not | apply jev_idx | apply jev_chain | apply jev_chain3 | apply jev_iteI | apply jev_tup | apply jev_lst | apply jev_slice | apply jev_call | apply jev_blt | apply jev_isi2 | apply jev_isi | apply jev_neg | exact jea_nil | apply jea_cons | exact jeo_none | apply jeo_some | exact jec_none | apply jec_some | apply jev_compRA | apply jev_compR | apply jev_compPA | apply jev_compP | refine' jt rfl ?_ ?_ ?_ ?_ | refine' ju rfl ?_ ?_ | apply jem_0 | apply jem_pk | apply jem_al | apply jem_fz | apply jes_0 | apply jes_pk | apply jes_fz | apply jst_set | apply jst_new1 | apply jst_expr | apply jst_ret | apply jst_unp | exact jst_nil | apply jst_app | apply jst_par | exact jeps_nil | apply jeps_cons | apply jep_fr | apply jep_l | exact jep_d | intro _ | ((with_reducible apply nrmS); simp only [List.set_cons_zero, List.set_cons_succ]; exact rfl) | apply opD_add | apply opD_sub | apply cmpD_lt | apply cmpD_le | apply cmpD_gt | apply cmpD_ge | apply cmpD_eqI | apply cmpD_neI | (apply idx_rowT; first | assumption | omega) | (apply idx_tblL; first | assumption | omega) | (apply idx_row; first | assumption | omega) | exact rfl | assumption | (simp only [List.length_cons, List.length_nil, List.length_map, List.length_range]; omega))
/-- lit places with their heights -/
def topsT (n : Nat) (f : Nat → Nat → Int) (h : Nat → Int) : D := .tup ((litL n f h).map fun p => .tup [natD p, .int (h p)])
theorem litL_len (n : Nat) (f : Nat → Nat → Int) (h : Nat → Int) : (litL n f h).length ≤ n := by
  have := List.length_filter_le (litB n f h) (List.range n)
  rw [List.length_range] at this
  exact this
theorem litL_lt {n : Nat} {f : Nat → Nat → Int} {h : Nat → Int} : ∀ a ∈ litL n f h, a < n := fun a ha => (litL_mem.mp ha).1
def b_tops (need_both : PySem.Str) : List Sx := [.set 2 (.fz []) (.call need_both [.var 0, .var 1]), .ret (.blt .tuple [.comp [3] (.n 3) .plain [.call "lit_of" [.var 2, .var 1]] none (.tup [.var 3, .idx (.var 1) (.var 3)])])]
theorem tops_run (F : Orc) {nb : PySem.Str} (h1 : OkNeedBoth nb F) (h2 : OkLitOf F) {n rods f h} (N : NetOk n rods) (d : IsDist n rods f) (r : RowIn n 99 h) :
    (rss F (b_tops nb) [.fr (netD n rods), .fr (rowT n h), .un, .un] none).bind resD = some (topsT n f h, none) := by
  have hn := N.hi
  have hl := litL_len n f h
  apply jrun_to
  unfold b_tops
  repeat' (first | exact jev_var rfl | exact jev_int | exact jev_glo | exact jev_bl | exact jev_non | exact jev_str | exact h1 _ _ _ _ N d r | exact h2 _ _ _ hn | (apply idx_rowT; exact litL_lt _ (by assumption)) | (show (litL n f h).length < 60000; omega) | apply jev_bin | apply jev_cmp | apply jev_and | apply jev_or | apply jev_not | apply jev_idx | apply jev_chain | apply jev_chain3 | apply jev_iteI | apply jev_tup | apply jev_lst | apply jev_slice | apply jev_call | apply jev_blt | apply jev_isi2 | apply jev_isi | apply jev_neg | exact jea_nil | apply jea_cons | exact jeo_none | apply jeo_some | exact jec_none | apply jec_some | apply jev_compRA | apply jev_compR | apply jev_compPA | apply jev_compP | refine' jt rfl ?_ ?_ ?_ ?_ | refine' ju rfl ?_ ?_ | apply jem_0 | apply jem_pk | apply jem_al | apply jem_fz | apply jes_0 | apply jes_pk | apply jes_fz | apply jst_set | apply jst_new1 | apply jst_expr | apply jst_ret | apply jst_unp | exact jst_nil | apply jst_app | apply jst_par | exact jeps_nil | apply jeps_cons | apply jep_fr | apply jep_l | exact jep_d | intro _ | ((with_reducible apply nrmS); simp only [List.set_cons_zero, List.set_cons_succ]; exact rfl) | apply opD_add | apply opD_sub | apply cmpD_lt | apply cmpD_le | apply cmpD_gt | apply cmpD_ge | apply cmpD_eqI | apply cmpD_neI | (apply idx_rowT; first | assumption | omega) | (apply idx_tblL; first | assumption | omega) | (apply idx_row; first | assumption | omega) | exact rfl | assumption | (simp only [List.length_cons, List.length_nil, List.length_map, List.length_range]; omega))
theorem idx_pls {l : List Nat} (h : l ≠ []) : idxD (.lst (l.map natD)) (.int 0) = some (natD (l.headD 0)) := by
  cases l with
  | nil => exact absurd rfl h
  | cons a l =>
    show atI ((a :: l).map natD) 0 = _
    unfold atI ixN
    rw [if_pos (Int.le_refl 0), if_pos (by simp)]
    rfl
def lastH (n : Nat) (f : Nat → Nat → Int) (h : Nat → Int) (p : Nat) : Nat := if litB n f h p = true then p else ((litL n f h).filter fun i => decide (h p ≤ h i - f i p)).headD 0
def b_last_hider (need_both : PySem.Str) : List Sx := [.set 3 (.fz []) (.call need_both [.var 0, .var 1]), .expr (.fz []) (.call "need_place" [.var 0, .var 2]), .set 4 (.fz []) (.call "lit_of" [.var 3, .var 1]), .ifS (.cmp .In (.var 2) (.var 4)) [.ret (.var 2)] [], .ret (.idx (.comp [5] (.n 5) .plain [.var 4] (some (.cmp .GtE (.bin .Sub (.idx (.var 1) (.var 5)) (.idx (.idx (.var 3) (.var 5)) (.var 2))) (.idx (.var 1) (.var 2)))) (.var 5)) (.int 0))]
theorem last_hider_run (F : Orc) {nb : PySem.Str} (h1 : OkNeedBoth nb F) (h2 : OkNeedPlace F) (h3 : OkLitOf F) {n rods f h} (N : NetOk n rods) (d : IsDist n rods f) (r : RowIn n 99 h) {p : Nat} (hp : p < n) :
    (rss F (b_last_hider nb) [.fr (netD n rods), .fr (rowT n h), .fr (.int (p : Int)), .un, .un, .un] none).bind resD = some (natD (lastH n f h p), none) := by
  have hn := N.hi
  have hl := litL_len n f h
  apply jrun_to
  unfold b_last_hider
  refine jst_set (jem_0 (jev_call (jea_cons (jev_var rfl) (jea_cons (jev_var rfl) jea_nil)) (h1 _ _ _ _ N d r))) rfl ?_
  refine jst_expr (jem_0 (jev_call (jea_cons (jev_var rfl) (jea_cons (jev_var rfl) jea_nil)) (h2 _ _ _ hp))) ?_
  refine jst_set (jem_0 (jev_call (jea_cons (jev_var rfl) (jea_cons (jev_var rfl) jea_nil)) (h3 _ _ _ hn))) rfl ?_
  refine jst_if (jev_cmp (jev_var rfl) (jev_var rfl) (cmpD_inT p (litL n f h))) (fun t => ?_) (fun t => ?_) (r := .rt (natD (lastH n f h p)) none)
  · rw [decide_eq_true_eq, litL_mem] at t
    have : lastH n f h p = p := if_pos t.2
    rw [this]
    exact jst_ret (jev_var rfl)
  · rw [decide_eq_false_iff_not, litL_mem] at t
    have t2 : ¬ litB n f h p = true := fun z => t ⟨hp, z⟩
    have : lastH n f h p = _ := if_neg t2
    rw [this]
    have hp1 : ∀ r ∈ rods, 1 ≤ r.2.2 := fun r hr => (N.rod r hr).2.2.1
    have ne : ((litL n f h).filter fun i => decide (h p ≤ h i - f i p)) ≠ [] := by
      rcases lit_or hp1 d (fun i hi => (r i hi).2) hp with z | ⟨q, hq, z1, z2⟩
      · exact absurd z t2
      · exact fun e => by
          have : q ∈ (litL n f h).filter fun i => decide (h p ≤ h i - f i p) := List.mem_filter.mpr ⟨litL_mem.mpr ⟨hq, z1⟩, by rw [decide_eq_true_eq]; exact (hid_iff.mp z2).2⟩
          rw [e] at this
          simp at this
    apply jst_ret
    repeat' (first | exact jev_var rfl | exact jev_int | exact jev_glo | exact jev_bl | exact jev_non | exact jev_str | exact idx_pls ne | (apply idx_rowT; exact litL_lt _ (by assumption)) | (apply idx_tblL; exact litL_lt _ (by assumption)) | (show (litL n f h).length < 60000; omega) | apply jev_bin | apply jev_cmp | apply jev_and | apply jev_or | apply jev_not | apply jev_idx | apply jev_chain | apply jev_chain3 | apply jev_iteI | apply jev_tup | apply jev_lst | apply jev_slice | apply jev_call | apply jev_blt | apply jev_isi2 | apply jev_isi | apply jev_neg | exact jea_nil | apply jea_cons | exact jeo_none | apply jeo_some | exact jec_none | apply jec_some | apply jev_compRA | apply jev_compR | apply jev_compPA | apply jev_compP | refine' jt rfl ?_ ?_ ?_ ?_ | refine' ju rfl ?_ ?_ | apply jem_0 | apply jem_pk | apply jem_al | apply jem_fz | apply jes_0 | apply jes_pk | apply jes_fz | apply jst_set | apply jst_new1 | apply jst_expr | apply jst_ret | apply jst_unp | exact jst_nil | apply jst_app | apply jst_par | exact jeps_nil | apply jeps_cons | apply jep_fr | apply jep_l | exact jep_d | intro _ | ((with_reducible apply nrmS); simp only [List.set_cons_zero, List.set_cons_succ]; exact rfl) | apply opD_add | apply opD_sub | apply cmpD_lt | apply cmpD_le | apply cmpD_gt | apply cmpD_ge | apply cmpD_eqI | apply cmpD_neI | (apply idx_rowT; first | assumption | omega) | (apply idx_tblL; first | assumption | omega) | (apply idx_row; first | assumption | omega) | exact rfl | assumption | (simp only [List.length_cons, List.length_nil, List.length_map, List.length_range]; omega))
  · rfl
def b_law_lit : List Sx := [.set 2 (.fz []) (.lst []), .forS (.n 3) .range (.fz []) [.blt .len [.var 1]] [.set 4 (.fz []) (.comp [5] (.n 5) .range [.blt .len [.var 1]] (some (.and (.cmp .NotEq (.var 5) (.var 3)) (.cmp .GtE (.bin .Sub (.idx (.var 1) (.var 5)) (.idx (.idx (.var 0) (.var 5)) (.var 3))) (.idx (.var 1) (.var 3))))) (.var 5)), .set 2 (.fz []) (.bin .Add (.var 2) (.ite (.cmp .Eq (.var 4) (.lst [])) (.lst [.var 3]) (.lst [])))], .ret (.var 2)]
theorem cmpD_nil (l : List Nat) (hl : l.length < 50000) : cmpD .Eq (.lst (l.map natD)) (.lst []) = some (decide (l = [])) := by
  show (if (eqOk (.lst (l.map natD)) && eqOk (.lst [])) = true then some (eqD (.lst (l.map natD)) (.lst [])) else none) = _
  rw [(Pl.lst (pl_nat l) (by rwa [List.length_map])).ok (by decide)]
  cases l with
  | nil => rfl
  | cons a l => rfl
theorem opD_addL {xs ys : List D} (h : xs.length + ys.length < 60000) : opD .Add (.lst xs) (.lst ys) = some (.lst (xs ++ ys)) := by
  show (if okLen (xs.length + ys.length) = true then some (D.lst (xs ++ ys)) else none) = _
  rw [if_pos (okLen_small h)]
theorem law_lit_run (F : Orc) {n : Nat} (hn : n ≤ 8) {f h} :
    (rss F b_law_lit [.fr (tblL n f), .fr (rowT n h), .un, .un, .un, .un] none).bind resD = some (plsL (litL n f h), none) := by
  have e0 : bltD .len [rowT n h] = some (.int (n : Int)) := by
    show some (D.int ((rowD n h).length : Int)) = _
    rw [rowD_len]
  obtain ⟨s', w', e, x3, x4, x5, rfl, rfl⟩ := jl_rng (F := F) (tg := .n 3) (w := none) (s := [.fr (tblL n f), .fr (rowT n h), .fr (.lst []), .un, .un, .un]) (body := [.set 4 (.fz []) (.comp [5] (.n 5) .range [.blt .len [.var 1]] (some (.and (.cmp .NotEq (.var 5) (.var 3)) (.cmp .GtE (.bin .Sub (.idx (.var 1) (.var 5)) (.idx (.idx (.var 0) (.var 5)) (.var 3))) (.idx (.var 1) (.var 3))))) (.var 5)), .set 2 (.fz []) (.bin .Add (.var 2) (.ite (.cmp .Eq (.var 4) (.lst [])) (.lst [.var 3]) (.lst [])))]) n
    (fun k s w2 => ∃ x3 x4 x5, s = [.fr (tblL n f), .fr (rowT n h), .fr (.lst (((List.range k).filter (litB n f h)).map natD)), x3, x4, x5] ∧ w2 = none)
    ⟨_, _, _, rfl, rfl⟩
    (fun k s w2 hk ⟨x3, x4, x5, hs, hw⟩ => by
      subst hs hw
      refine ⟨[.fr (tblL n f), .fr (rowT n h), .fr (.lst (((List.range k).filter (litB n f h)).map natD)), .fr (.int (k : Int)), x4, x5], [.fr (tblL n f), .fr (rowT n h), .fr (.lst (((List.range (k + 1)).filter (litB n f h)).map natD)), .fr (.int (k : Int)), .fr (.lst ((hidL n f h k).map natD)), x5], none, rfl, ?_, _, _, _, rfl, rfl⟩
      have len : (((List.range k).filter (litB n f h)).map natD).length < 50000 := by
        rw [List.length_map]
        have := List.length_filter_le (litB n f h) (List.range k)
        rw [List.length_range] at this
        omega
      have e1 : (((List.range k).filter (litB n f h)).map natD) ++ (if decide (hidL n f h k = []) = true then [natD k] else []) = ((List.range (k + 1)).filter (litB n f h)).map natD := by
        rw [List.range_succ, List.filter_append, List.map_append]
        congr 1
        by_cases c : litB n f h k = true
        · rw [if_pos (by rw [decide_eq_true_eq, hidL_nil]; exact c), List.filter_cons_of_pos c]; rfl
        · rw [if_neg (by rw [decide_eq_true_eq, hidL_nil]; exact c), List.filter_cons_of_neg c]; rfl
      rw [← e1]
      apply jst_set
      · apply jem_0
        repeat' (first | exact jev_var rfl | exact jev_int | exact jev_glo | exact jev_bl | exact jev_non | exact jev_str | exact e0 | omega | apply jev_bin | apply jev_cmp | apply jev_and | apply jev_or | apply jev_not | apply jev_idx | apply jev_chain | apply jev_chain3 | apply jev_iteI | apply jev_tup | apply jev_lst | apply jev_slice | apply jev_call | apply jev_blt | apply jev_isi2 | apply jev_isi | apply jev_neg | exact jea_nil | apply jea_cons | exact jeo_none | apply jeo_some | exact jec_none | apply jec_some | apply jev_compRA | apply jev_compR | apply jev_compPA | apply jev_compP | refine' jt rfl ?_ ?_ ?_ ?_ | refine' ju rfl ?_ ?_ | apply jem_0 | apply jem_pk | apply jem_al | apply jem_fz | apply jes_0 | apply jes_pk | apply jes_fz | apply jst_set | apply jst_new1 | apply jst_expr | apply jst_ret | apply jst_unp | exact jst_nil | apply jst_app | apply jst_par | exact jeps_nil | apply jeps_cons | apply jep_fr | apply jep_l | exact jep_d | intro _ | ((with_reducible apply nrmS); simp only [List.set_cons_zero, List.set_cons_succ]; exact rfl) | apply opD_add | apply opD_sub | apply cmpD_lt | apply cmpD_le | apply cmpD_gt | apply cmpD_ge | apply cmpD_eqI | apply cmpD_neI | (apply idx_rowT; first | assumption | omega) | (apply idx_tblL; first | assumption | omega) | (apply idx_row; first | assumption | omega) | exact rfl | assumption | (simp only [List.length_cons, List.length_nil, List.length_map, List.length_range]; omega))
      · exact rfl
      · apply jst_set
        · apply jem_0
          repeat' (first | exact jev_var rfl | exact jev_int | exact jev_glo | exact jev_bl | exact jev_non | exact jev_str | apply jev_iteL | exact cmpD_nil _ (show (hidL n f h k).length < 50000 by have := List.length_filter_le (fun i => hid f h i k) (List.range n); rw [List.length_range] at this; exact Nat.lt_of_le_of_lt this (by omega)) | apply opD_addL | apply jev_bin | apply jev_cmp | apply jev_and | apply jev_or | apply jev_not | apply jev_idx | apply jev_chain | apply jev_chain3 | apply jev_iteI | apply jev_tup | apply jev_lst | apply jev_slice | apply jev_call | apply jev_blt | apply jev_isi2 | apply jev_isi | apply jev_neg | exact jea_nil | apply jea_cons | exact jeo_none | apply jeo_some | exact jec_none | apply jec_some | apply jev_compRA | apply jev_compR | apply jev_compPA | apply jev_compP | refine' jt rfl ?_ ?_ ?_ ?_ | refine' ju rfl ?_ ?_ | apply jem_0 | apply jem_pk | apply jem_al | apply jem_fz | apply jes_0 | apply jes_pk | apply jes_fz | apply jst_set | apply jst_new1 | apply jst_expr | apply jst_ret | apply jst_unp | exact jst_nil | apply jst_app | apply jst_par | exact jeps_nil | apply jeps_cons | apply jep_fr | apply jep_l | exact jep_d | intro _ | ((with_reducible apply nrmS); simp only [List.set_cons_zero, List.set_cons_succ]; exact rfl) | apply opD_add | apply opD_sub | apply cmpD_lt | apply cmpD_le | apply cmpD_gt | apply cmpD_ge | apply cmpD_eqI | apply cmpD_neI | (apply idx_rowT; first | assumption | omega) | (apply idx_tblL; first | assumption | omega) | (apply idx_row; first | assumption | omega) | exact rfl | assumption | (simp only [List.length_cons, List.length_nil, List.length_map, List.length_range]; omega))
          have this : ∀ c : Bool, (if c = true then [D.int (k : Int)] else []).length ≤ 1 := fun c => by cases c <;> simp
          exact Nat.lt_of_le_of_lt (Nat.add_le_add (Nat.le_of_lt len) (this _)) (by decide)
        · exact rfl
        · exact jst_nil)
  apply jrun_to
  unfold b_law_lit
  repeat' (first | exact jev_var rfl | exact jev_int | exact jev_glo | exact jev_bl | exact jev_non | exact jev_str | apply jev_bin | apply jev_cmp | apply jev_and | apply jev_or | apply jev_not | apply jev_idx | apply jev_chain | apply jev_chain3 | apply jev_iteI | apply jev_tup | apply jev_lst | apply jev_slice | apply jev_call | apply jev_blt | apply jev_isi2 | apply jev_isi | apply jev_neg | exact jea_nil | apply jea_cons | exact jeo_none | apply jeo_some | exact jec_none | apply jec_some | apply jev_compRA | apply jev_compR | apply jev_compPA | apply jev_compP | refine' jt rfl ?_ ?_ ?_ ?_ | refine' ju rfl ?_ ?_ | apply jem_0 | apply jem_pk | apply jem_al | apply jem_fz | apply jes_0 | apply jes_pk | apply jes_fz | apply jst_set | apply jst_new1 | apply jst_expr | apply jst_ret | apply jst_unp | exact jst_nil | apply jst_app | apply jst_par | exact jeps_nil | apply jeps_cons | apply jep_fr | apply jep_l | exact jep_d | intro _ | ((with_reducible apply nrmS); simp only [List.set_cons_zero, List.set_cons_succ]; exact rfl) | apply opD_add | apply opD_sub | apply cmpD_lt | apply cmpD_le | apply cmpD_gt | apply cmpD_ge | apply cmpD_eqI | apply cmpD_neI | (apply idx_rowT; first | assumption | omega) | (apply idx_tblL; first | assumption | omega) | (apply idx_row; first | assumption | omega) | exact rfl | assumption | (simp only [List.length_cons, List.length_nil, List.length_map, List.length_range]; omega))
  refine jst_for (jes_0 (jea_cons (jev_blt (jea_cons (jev_var rfl) jea_nil) e0) jea_nil)) (rngI n (by omega)) e ?_
  repeat' (first | exact jev_var rfl | exact jev_int | exact jev_glo | exact jev_bl | exact jev_non | exact jev_str | apply jev_bin | apply jev_cmp | apply jev_and | apply jev_or | apply jev_not | apply jev_idx | apply jev_chain | apply jev_chain3 | apply jev_iteI | apply jev_tup | apply jev_lst | apply jev_slice | apply jev_call | apply jev_blt | apply jev_isi2 | apply jev_isi | apply jev_neg | exact jea_nil | apply jea_cons | exact jeo_none | apply jeo_some | exact jec_none | apply jec_some | apply jev_compRA | apply jev_compR | apply jev_compPA | apply jev_compP | refine' jt rfl ?_ ?_ ?_ ?_ | refine' ju rfl ?_ ?_ | apply jem_0 | apply jem_pk | apply jem_al | apply jem_fz | apply jes_0 | apply jes_pk | apply jes_fz | apply jst_set | apply jst_new1 | apply jst_expr | apply jst_ret | apply jst_unp | exact jst_nil | apply jst_app | apply jst_par | exact jeps_nil | apply jeps_cons | apply jep_fr | apply jep_l | exact jep_d | intro _ | ((with_reducible apply nrmS); simp only [List.set_cons_zero, List.set_cons_succ]; exact rfl) | apply opD_add | apply opD_sub | apply cmpD_lt | apply cmpD_le | apply cmpD_gt | apply cmpD_ge | apply cmpD_eqI | apply cmpD_neI | (apply idx_rowT; first | assumption | omega) | (apply idx_tblL; first | assumption | omega) | (apply idx_row; first | assumption | omega) | exact rfl | assumption | (simp only [List.length_cons, List.length_nil, List.length_map, List.length_range]; omega))
end Lt

set_option Elab.async false
set_option linter.all false
set_option maxRecDepth 100000
set_option maxHeartbeats 400000
/-! LtRe: plain Lean: distances by mending rods; alike. -/
namespace Lt
open PySem PySem.Spec PyProof.Rows L2
theorem jst_putT {F : Orc} {w : Option W} {s s2 : Sls} {r : Res} {rest : List Sx} {q n i j : Nat} {g : Nat → Nat → Int} {v : Int} {m a b : E} (h : JM F m .pk s w (.int v) s w) (ha : JM F a .pk s w (.int (i : Int)) s w) (hb : JM F b .pk s w (.int (j : Int)) s w) (h0 : s[q]? = some (.ll (tblD n g))) (hi : i < n) (hj : j < n) (h2 : s.set q (.ll (tblD n (upd2 g i j v))) = s2) (hr : JS F rest s2 w r) : JS F (.put2 q m a b :: rest) s w r :=
  jst_put2 h ha hb h0 (by rw [tblD_len]; exact ixN_nat hi) (tblD_get n g hi) (by rw [rowD_len]; exact ixN_nat hj) (by rw [tblD_set n g v hi]; exact h2) hr
theorem tblL_congr {n : Nat} {f g : Nat → Nat → Int} (h : ∀ i j, i < n → j < n → f i j = g i j) : tblL n f = tblL n g := by
  unfold tblL tblD rowD
  congr 2
  refine List.map_congr_left fun i hi => ?_
  refine List.map_congr_left fun j hj => ?_
  rw [h i j (List.mem_range.mp hi) (List.mem_range.mp hj)]
theorem NetOk.p1 {n : Nat} {rods : List Rod} (N : NetOk n rods) : ∀ r ∈ rods, 1 ≤ r.2.2 := fun r hr => (N.rod r hr).2.2.1
theorem NetOk.ends {n : Nat} {rods : List Rod} (N : NetOk n rods) : ∀ r ∈ rods, r.1 < n ∧ r.2.1 < n := fun r hr => by
  have := N.rod r hr
  omega
theorem NetOk.le {n : Nat} {rods : List Rod} (N : NetOk n rods) {d : Nat → Nat → Int} (D : IsDist n rods d) {i j : Nat} (hi : i < n) (hj : j < n) : d i j ≤ 126 := by
  have h8 := N.hi
  obtain ⟨c, w1, b1⟩ := N.walk i i (Nat.le_refl _) hi
  obtain ⟨e, w2, b2⟩ := N.walk j j (Nat.le_refl _) hj
  have q1 := (le_walk N.ends D.z D.e hi w1.rev).1
  have q2 := (le_walk N.ends D.z D.e (show 0 < n by omega) w2).1
  have t := D.tr N.p1 hi (show 0 < n by omega) hj
  omega
def bF1 : List Sx := [.put2 2 (.blt .min2 [.idx (.idx (.var 2) (.var 7)) (.var 4), .bin .Add (.idx (.idx (.var 2) (.var 7)) (.var 5)) (.var 6)]) (.var 7) (.var 4), .put2 2 (.blt .min2 [.idx (.idx (.var 2) (.var 7)) (.var 5), .bin .Add (.idx (.idx (.var 2) (.var 7)) (.var 4)) (.var 6)]) (.var 7) (.var 5)]
def bF2 : List Sx := [.forS (.n 7) .range (.fz []) [.var 1] bF1]
def bF3 : List Sx := [.forS (.t [.n 4, .n 5, .n 6]) .plain (.fz []) [.idx (.var 0) (.int 1)] bF2]
theorem f1_step (F : Orc) {n a b p : Nat} {l : Int} (ha : a < n) (hb : b < n) (hp : p < n) (g : Nat → Nat → Int) (x0 x1 x3 : Sl) (w : Option W) :
    JS F bF1 [x0, x1, .ll (tblD n g), x3, .fr (.int (a : Int)), .fr (.int (b : Int)), .fr (.int l), .fr (.int (p : Int))] w (.nx [x0, x1, .ll (tblD n (relax g p a b l)), x3, .fr (.int (a : Int)), .fr (.int (b : Int)), .fr (.int l), .fr (.int (p : Int))] w) := by
  unfold bF1
  refine jst_putT (v := mn (g p a) (g p b + l)) (jem_pk ?_ rfl) (jem_pk (jev_var rfl) rfl) (jem_pk (jev_var rfl) rfl) rfl hp ha rfl ?_
  · repeat' (first | exact jev_var rfl | exact jev_int | exact jev_glo | exact jev_bl | exact jev_non | exact jev_str | apply jev_bin | apply jev_cmp | apply jev_and | apply jev_or | apply jev_not | apply jev_idx | apply jev_chain | apply jev_chain3 | apply jev_iteI | apply jev_tup | apply jev_lst | apply jev_slice | apply jev_call | apply jev_blt | apply jev_isi2 | apply jev_isi | apply jev_neg | exact jea_nil | apply jea_cons | exact jeo_none | apply jeo_some | exact jec_none | apply jec_some | apply jev_compRA | apply jev_compR | apply jev_compPA | apply jev_compP | refine' jt rfl ?_ ?_ ?_ ?_ | refine' ju rfl ?_ ?_ | apply jem_0 | apply jem_pk | apply jem_al | apply jem_fz | apply jes_0 | apply jes_pk | apply jes_fz | apply jst_set | apply jst_new1 | apply jst_expr | apply jst_ret | apply jst_unp | exact jst_nil | apply jst_app | apply jst_par | exact jeps_nil | apply jeps_cons | apply jep_fr | apply jep_l | exact jep_d | intro _ | apply opD_add | apply opD_sub | apply cmpD_lt | apply cmpD_le | apply cmpD_gt | apply cmpD_ge | apply cmpD_eqI | apply cmpD_neI | (apply idx_rowT; first | assumption | omega) | (apply idx_tblL; first | assumption | omega) | (apply idx_row; first | assumption | omega) | exact rfl | assumption | (simp only [List.length_cons, List.length_nil, List.length_map, List.length_range]; omega))
  · refine jst_putT (g := upd2 g p a (mn (g p a) (g p b + l))) (v := mn (upd2 g p a (mn (g p a) (g p b + l)) p b) (upd2 g p a (mn (g p a) (g p b + l)) p a + l)) (jem_pk ?_ rfl) (jem_pk (jev_var rfl) rfl) (jem_pk (jev_var rfl) rfl) rfl hp hb rfl jst_nil
    repeat' (first | exact jev_var rfl | exact jev_int | exact jev_glo | exact jev_bl | exact jev_non | exact jev_str | apply jev_bin | apply jev_cmp | apply jev_and | apply jev_or | apply jev_not | apply jev_idx | apply jev_chain | apply jev_chain3 | apply jev_iteI | apply jev_tup | apply jev_lst | apply jev_slice | apply jev_call | apply jev_blt | apply jev_isi2 | apply jev_isi | apply jev_neg | exact jea_nil | apply jea_cons | exact jeo_none | apply jeo_some | exact jec_none | apply jec_some | apply jev_compRA | apply jev_compR | apply jev_compPA | apply jev_compP | refine' jt rfl ?_ ?_ ?_ ?_ | refine' ju rfl ?_ ?_ | apply jem_0 | apply jem_pk | apply jem_al | apply jem_fz | apply jes_0 | apply jes_pk | apply jes_fz | apply jst_set | apply jst_new1 | apply jst_expr | apply jst_ret | apply jst_unp | exact jst_nil | apply jst_app | apply jst_par | exact jeps_nil | apply jeps_cons | apply jep_fr | apply jep_l | exact jep_d | intro _ | apply opD_add | apply opD_sub | apply cmpD_lt | apply cmpD_le | apply cmpD_gt | apply cmpD_ge | apply cmpD_eqI | apply cmpD_neI | (apply idx_rowT; first | assumption | omega) | (apply idx_tblL; first | assumption | omega) | (apply idx_row; first | assumption | omega) | exact rfl | assumption | (simp only [List.length_cons, List.length_nil, List.length_map, List.length_range]; omega))
theorem f2_step (F : Orc) {n : Nat} {rods : List Rod} (N : NetOk n rods) {d f0 : Nat → Nat → Int} (D : IsDist n rods d) (k : Nat) (r : Rod) (hk : rods[k]? = some r) (g : Nat → Nat → Int) (R : Rnd n k 0 rods d f0 g) (x0 x3 x7 : Sl) (w : Option W) :
    ∃ g' x7', JS F bF2 [x0, .fr (.int (n : Int)), .ll (tblD n g), x3, .fr (.int (r.1 : Int)), .fr (.int (r.2.1 : Int)), .fr (.int r.2.2), x7] w (.nx [x0, .fr (.int (n : Int)), .ll (tblD n g'), x3, .fr (.int (r.1 : Int)), .fr (.int (r.2.1 : Int)), .fr (.int r.2.2), x7'] w) ∧ Rnd n (k + 1) 0 rods d f0 g' := by
  have hr := List.mem_of_getElem? hk
  have h8 := N.hi
  obtain ⟨a1, a2, a3, a4⟩ := N.rod r hr
  obtain ⟨s', w', e, g', x7', rfl, rfl, R'⟩ := jl_rng (F := F) (tg := .n 7) (body := bF1) n
    (fun p s w2 => ∃ g x7, s = [x0, .fr (.int (n : Int)), .ll (tblD n g), x3, .fr (.int (r.1 : Int)), .fr (.int (r.2.1 : Int)), .fr (.int r.2.2), x7] ∧ w2 = w ∧ Rnd n k p rods d f0 g)
    (s := [x0, .fr (.int (n : Int)), .ll (tblD n g), x3, .fr (.int (r.1 : Int)), .fr (.int (r.2.1 : Int)), .fr (.int r.2.2), x7]) (w := w)
    ⟨_, _, rfl, rfl, R⟩
    (fun p s w2 hp ⟨g, y7, hs, hw, R⟩ => by
      subst hs hw
      exact ⟨_, _, _, rfl, f1_step F (by omega) a2 hp g _ _ _ _, _, _, rfl, rfl, R.next hk (D.e r hr) (by omega) a2 (by omega) (by omega) hp⟩)
  refine ⟨g', x7', ?_, R'.roll⟩
  unfold bF2
  exact jst_for (jes_0 (jea_cons (jev_var rfl) jea_nil)) (rngI n (by omega)) e jst_nil
theorem f3_step (F : Orc) {n : Nat} {rods : List Rod} (N : NetOk n rods) {d : Nat → Nat → Int} (D : IsDist n rods d) (t : Nat) (g : Nat → Nat → Int) (I : FarI n t d g) (x3 x4 x5 x6 x7 : Sl) (w : Option W) :
    ∃ g' x4' x5' x6' x7', JS F bF3 [.fr (netD n rods), .fr (.int (n : Int)), .ll (tblD n g), x3, x4, x5, x6, x7] w (.nx [.fr (netD n rods), .fr (.int (n : Int)), .ll (tblD n g'), x3, x4', x5', x6', x7'] w) ∧ FarI n (t + 1) d g' := by
  obtain ⟨s', w', e, g', x4', x5', x6', x7', rfl, rfl, R'⟩ := jl_map (F := F) (tg := .t [.n 4, .n 5, .n 6]) (body := bF2) rods rodD
    (fun k s w2 => ∃ g' x4 x5 x6 x7, s = [.fr (netD n rods), .fr (.int (n : Int)), .ll (tblD n g'), x3, x4, x5, x6, x7] ∧ w2 = w ∧ Rnd n k 0 rods d g g')
    (s := [.fr (netD n rods), .fr (.int (n : Int)), .ll (tblD n g), x3, x4, x5, x6, x7]) (w := w)
    ⟨_, _, _, _, _, rfl, rfl, ⟨I.lo, fun _ _ _ _ => Int.le_refl _, fun x r hx i hi c => by omega⟩⟩
    (fun k r s w2 hk ⟨g', y4, y5, y6, y7, hs, hw, R⟩ => by
      subst hs hw
      obtain ⟨g2, y, e, R2⟩ := f2_step F N D k r hk g' R (.fr (netD n rods)) x3 y7 w2
      exact ⟨_, _, _, rfl, e, _, _, _, _, _, rfl, rfl, R2⟩)
  refine ⟨g', x4', x5', x6', x7', ?_, I.next D N.p1 R'⟩
  unfold bF3
  exact jst_for (jes_0 (jea_cons (jev_idx (jev_var rfl) jev_int rfl) jea_nil)) (its := rods.map rodD) rfl e jst_nil
def b_law_far : List Sx := [.set 1 (.fz []) (.idx (.var 0) (.int 0)), .new2 2 (.fz []) (.comp [4] (.n 4) .range [.var 1] none (.comp [5] (.n 5) .range [.var 1] none (.ite (.cmp .Eq (.var 4) (.var 5)) (.int 0) (.int 999)))), .forS (.n 3) .range (.fz []) [.var 1] [.forS (.t [.n 4, .n 5, .n 6]) .plain (.fz []) [.idx (.var 0) (.int 1)] [.forS (.n 7) .range (.fz []) [.var 1] [.put2 2 (.blt .min2 [.idx (.idx (.var 2) (.var 7)) (.var 4), .bin .Add (.idx (.idx (.var 2) (.var 7)) (.var 5)) (.var 6)]) (.var 7) (.var 4), .put2 2 (.blt .min2 [.idx (.idx (.var 2) (.var 7)) (.var 5), .bin .Add (.idx (.idx (.var 2) (.var 7)) (.var 4)) (.var 6)]) (.var 7) (.var 5)]]], .ret (.var 2)]
theorem law_far_eq : b_law_far = [.set 1 (.fz []) (.idx (.var 0) (.int 0)), .new2 2 (.fz []) (.comp [4] (.n 4) .range [.var 1] none (.comp [5] (.n 5) .range [.var 1] none (.ite (.cmp .Eq (.var 4) (.var 5)) (.int 0) (.int 999)))), .forS (.n 3) .range (.fz []) [.var 1] bF3, .ret (.var 2)] := rfl
def g0 : Nat → Nat → Int := fun i j => if decide ((i : Int) = (j : Int)) = true then 0 else 999
theorem law_far_run (F : Orc) {n : Nat} {rods : List Rod} (N : NetOk n rods) {d : Nat → Nat → Int} (D : IsDist n rods d) :
    (rss F b_law_far [.fr (netD n rods), .un, .un, .un, .un, .un, .un, .un] none).bind resD = some (tblL n d, none) := by
  have h8 := N.hi
  obtain ⟨s', w', e, g', x3, x4, x5, x6, x7, rfl, rfl, I⟩ := jl_rng (F := F) (tg := .n 3) (body := bF3) n
    (fun t s w2 => ∃ g x3 x4 x5 x6 x7, s = [.fr (netD n rods), .fr (.int (n : Int)), .ll (tblD n g), x3, x4, x5, x6, x7] ∧ w2 = none ∧ FarI n t d g)
    (s := [.fr (netD n rods), .fr (.int (n : Int)), .ll (tblD n g0), .un, .un, .un, .un, .un]) (w := none)
    ⟨_, _, _, _, _, _, rfl, rfl, FarI.zero D N.p1 (fun i j hi hj => by
      have := N.le D hi hj
      unfold g0
      by_cases c : i = j
      · subst c; rw [D.z i hi]; simp
      · rw [if_neg (by rw [decide_eq_true_eq]; omega)]; omega) (fun i hi => by unfold g0; simp)⟩
    (fun t s w2 ht ⟨g, y3, y4, y5, y6, y7, hs, hw, I⟩ => by
      subst hs hw
      obtain ⟨g', z4, z5, z6, z7, e, I'⟩ := f3_step F N D t g I (.fr (.int (t : Int))) y4 y5 y6 y7 none
      exact ⟨_, _, _, rfl, e, _, _, _, _, _, _, rfl, rfl, I'⟩)
  apply jrun_to
  · rw [law_far_eq]
    refine jst_set (jem_0 (jev_idx (jev_var rfl) jev_int rfl)) rfl ?_
    refine jst_new2 (w1 := none) (dss := tblD n g0) (d := (tblD n g0).map Lt.D.lst) (jem_0 ?_) rfl rfl ?_
    · rw [tbl_map]
      repeat' (first | exact jev_var rfl | exact jev_int | exact jev_glo | exact jev_bl | exact jev_non | exact jev_str | omega | apply jev_bin | apply jev_cmp | apply jev_and | apply jev_or | apply jev_not | apply jev_idx | apply jev_chain | apply jev_chain3 | apply jev_iteI | apply jev_tup | apply jev_lst | apply jev_slice | apply jev_call | apply jev_blt | apply jev_isi2 | apply jev_isi | apply jev_neg | exact jea_nil | apply jea_cons | exact jeo_none | apply jeo_some | exact jec_none | apply jec_some | apply jev_compRA | apply jev_compR | apply jev_compPA | apply jev_compP | refine' jt rfl ?_ ?_ ?_ ?_ | refine' ju rfl ?_ ?_ | apply jem_0 | apply jem_pk | apply jem_al | apply jem_fz | apply jes_0 | apply jes_pk | apply jes_fz | apply jst_set | apply jst_new1 | apply jst_expr | apply jst_ret | apply jst_unp | exact jst_nil | apply jst_app | apply jst_par | exact jeps_nil | apply jeps_cons | apply jep_fr | apply jep_l | exact jep_d | intro _ | apply opD_add | apply opD_sub | apply cmpD_lt | apply cmpD_le | apply cmpD_gt | apply cmpD_ge | apply cmpD_eqI | apply cmpD_neI | (apply idx_rowT; first | assumption | omega) | (apply idx_tblL; first | assumption | omega) | (apply idx_row; first | assumption | omega) | exact rfl | assumption | (simp only [List.length_cons, List.length_nil, List.length_map, List.length_range]; omega))
    · refine jst_for (jes_0 (jea_cons (jev_var rfl) jea_nil)) (rngI n (by omega)) e ?_
      exact jst_ret (jev_var rfl)
  · exact tblL_congr fun i j hi hj => I.done hi hj
/-! ### alike -/
theorem jst_off {F : Orc} {w w1 : Option W} {s : Sls} {r : Res} {rest : List Sx} {c : E} {a b : List Sx} {t : Bool} (h : JE F c (vwS (fzA s)) w (.bl t) w1) (h0 : t = false) (h1 : JS F (b ++ rest) s w1 r) : JS F (.ifS c a b :: rest) s w r := by
  subst h0; exact jst_if_f h h1
theorem jst_on {F : Orc} {w w1 : Option W} {s : Sls} {r : Res} {rest : List Sx} {c : E} {a b : List Sx} {t : Bool} (h : JE F c (vwS (fzA s)) w (.bl t) w1) (h0 : t = true) (h1 : JS F (a ++ rest) s w1 r) : JS F (.ifS c a b :: rest) s w r := by
  subst h0; exact jst_if_t h h1
def OkAlike (F : Orc) (m : Nat) : Prop := ∀ d, Pl m d → F "_law_alike" false [d, d] none = some (.bl true, none)
def b_law_alike : List Sx := [.ifS (.isi2 (.var 1) .tuple .list) [.ifS (.or (.not (.isi2 (.var 0) .tuple .list)) (.cmp .NotEq (.isi (.var 0) .list) (.isi (.var 1) .list))) [.ret (.bl false)] [], .ifS (.cmp .NotEq (.blt .len [.var 0]) (.blt .len [.var 1])) [.ret (.bl false)] [], .ret (.cmp .Eq (.comp [2] (.n 2) .range [.blt .len [.var 1]] (some (.not (.call "_law_alike" [.idx (.var 0) (.var 2), .idx (.var 1) (.var 2)]))) (.var 2)) (.lst []))] [], .ifS (.or (.cmp .Is (.var 1) (.non)) (.isi (.var 1) .str)) [.ret (.and (.cmp .Eq (.var 0) (.var 1)) (.cmp .Eq (.isi (.var 0) .str) (.isi (.var 1) .str)))] [], .ret (.and (.isi (.var 0) .int) (.and (.cmp .Eq (.isi (.var 0) .bool) (.isi (.var 1) .bool)) (.cmp .Eq (.var 0) (.var 1))))]
theorem alike_int (F : Orc) (i : Int) : (rss F b_law_alike [.fr (.int i), .fr (.int i), .un] none).bind resD = some (.bl true, none) := by
  apply jrun_to
  · unfold b_law_alike
    refine jst_off (jev_isi2 (jev_var rfl)) rfl ?_
    refine jst_off (jev_or (jev_cmp (jev_var rfl) jev_non rfl) (fun _ => jev_isi (jev_var rfl))) rfl ?_
    exact jst_ret (jev_and (jev_isi (jev_var rfl)) (fun _ => jev_and (jev_cmp (jev_isi (jev_var rfl)) (jev_isi (jev_var rfl)) (cmpD_eqB _ _)) (fun _ => jev_cmp (jev_var rfl) (jev_var rfl) (cmpD_eqI _ _))))
  · simp [isiD]
theorem alike_bl (F : Orc) (i : Bool) : (rss F b_law_alike [.fr (.bl i), .fr (.bl i), .un] none).bind resD = some (.bl true, none) := by
  apply jrun_to
  · unfold b_law_alike
    refine jst_off (jev_isi2 (jev_var rfl)) rfl ?_
    refine jst_off (jev_or (jev_cmp (jev_var rfl) jev_non rfl) (fun _ => jev_isi (jev_var rfl))) rfl ?_
    exact jst_ret (jev_and (jev_isi (jev_var rfl)) (fun _ => jev_and (jev_cmp (jev_isi (jev_var rfl)) (jev_isi (jev_var rfl)) (cmpD_eqB _ _)) (fun _ => jev_cmp (jev_var rfl) (jev_var rfl) (cmpD_eqB _ _))))
  · simp [isiD]
theorem alike_non (F : Orc) : (rss F b_law_alike [.fr .non, .fr .non, .un] none).bind resD = some (.bl true, none) := by
  apply jrun_to
  · unfold b_law_alike
    refine jst_off (jev_isi2 (jev_var rfl)) rfl ?_
    refine jst_on (jev_or (jev_cmp (jev_var rfl) jev_non rfl) (fun _ => jev_isi (jev_var rfl))) rfl ?_
    exact jst_ret (jev_and (jev_cmp (jev_var rfl) (jev_var rfl) rfl) (fun _ => jev_cmp (jev_isi (jev_var rfl)) (jev_isi (jev_var rfl)) (cmpD_eqB _ _)))
  · rfl
theorem alike_seq (F : Orc) (m : Nat) (h : OkAlike F m) {xs : List D} (hx : ∀ x ∈ xs, Pl m x) (hl : xs.length < 50000) {d : D} (hd : d = .tup xs ∨ d = .lst xs) : (rss F b_law_alike [.fr d, .fr d, .un] none).bind resD = some (.bl true, none) := by
  have e1 : (isiD d .tuple || isiD d .list) = true := by rcases hd with rfl | rfl <;> rfl
  have e2 : bltD .len [d] = some (.int (xs.length : Int)) := by rcases hd with rfl | rfl <;> rfl
  have e3 : ∀ k, k < xs.length → idxD d (.int (k : Int)) = some (xs.getD k .non) := fun k hk => by
    have : atI xs (k : Int) = some (xs.getD k .non) := by
      unfold atI
      rw [ixN_nat hk, Option.bind_some, List.getD_eq_getElem?_getD, List.getElem?_eq_getElem hk]
      rfl
    rcases hd with rfl | rfl <;> exact this
  have e4 : ∀ k, k < xs.length → Pl m (xs.getD k .non) := fun k hk => by
    rw [List.getD_eq_getElem?_getD, List.getElem?_eq_getElem hk]
    exact hx _ (List.getElem_mem hk)
  apply jrun_to
  · unfold b_law_alike
    apply jst_if
    · exact jev_isi2 (jev_var rfl)
    · intro _
      apply jst_skip
      · exact jev_or (jev_not (jev_isi2 (jev_var rfl))) (fun _ => jev_cmp (jev_isi (jev_var rfl)) (jev_isi (jev_var rfl)) (cmpD_neB _ _))
      · rw [e1]; simp
      apply jst_skip
      · exact jev_cmp (jev_blt (jea_cons (jev_var rfl) jea_nil) e2) (jev_blt (jea_cons (jev_var rfl) jea_nil) e2) (cmpD_neI _ _)
      · simp
      apply jst_ret
      apply jev_cmp
      · refine jev_compR (n := xs.length) (p := fun _ => false) (g := natD) (jea_cons (jev_blt (jea_cons (jev_var rfl) jea_nil) e2) jea_nil) (by omega) fun k hk => ?_
        refine jt rfl (jec_some (jev_not (jev_call (jea_cons (jev_idx (jev_var rfl) (jev_var rfl) (e3 k hk)) (jea_cons (jev_idx (jev_var rfl) (jev_var rfl) (e3 k hk)) jea_nil)) (h _ (e4 k hk))))) rfl (fun _ => jev_var rfl) rfl
      · exact jev_lst jea_nil (by decide)
      · rw [List.filter_eq_nil_iff.mpr (by simp)]
        exact rfl
    · intro z
      rw [e1] at z
      cases z
  · rfl
theorem alike_run (F : Orc) {m : Nat} (h : ∀ k, k < m → OkAlike F k) {d : D} (hd : Pl m d) : (rss F b_law_alike [.fr d, .fr d, .un] none).bind resD = some (.bl true, none) := by
  cases hd with
  | int i => exact alike_int F i
  | bl b => exact alike_bl F b
  | non => exact alike_non F
  | tup hx hl => exact alike_seq F _ (h _ (Nat.lt_succ_self _)) hx hl (.inl rfl)
  | lst hx hl => exact alike_seq F _ (h _ (Nat.lt_succ_self _)) hx hl (.inr rfl)
end Lt

set_option Elab.async false
set_option linter.all false
set_option maxRecDepth 100000
set_option maxHeartbeats 400000
/-! LtRf: plain Lean: draws. -/
namespace Lt
open PySem PySem.Spec PyProof.Rows L2
/-- a draw -/
def OkDraw (F : Orc) : Prop := ∀ (w : W) (m : Int), 0 < m → m < 1073741824 → 0 ≤ w.a → ∃ (t : Nat) (w' : W), (t : Int) < m ∧ 0 ≤ w'.a ∧ F "_law_taken" true [.int m] (some w) = some (.int (t : Int), some w')
theorem draw_run (F : Orc) (w : W) (m : Int) (h1 : 0 < m) (h2 : m < 1073741824) (ha : 0 ≤ w.a) : ∃ (t : Nat) (w' : W), (t : Int) < m ∧ 0 ≤ w'.a ∧ (rss F bTaken [.un, .fr (.int m), .un, .un] (some w)).bind resD = some (.int (t : Int), some w') := by
  obtain ⟨t, w', t0, t1, a, e⟩ := taken_ok F w m h1 h2 ha
  refine ⟨t.toNat, w', by omega, a, ?_⟩
  rw [e, show ((t.toNat : Nat) : Int) = t by omega]
theorem OkDraw.taken {F : Orc} (h : OkDraw F) : OkTaken F := fun w m h1 h2 ha => by
  obtain ⟨t, w', t1, a, e⟩ := h w m h1 h2 ha
  exact ⟨t, w', by omega, t1, a, e⟩
theorem OkDraw.at {F : Orc} (h : OkDraw F) (w : W) (m : Nat) (h1 : 0 < m) (h2 : m < 1000000) (ha : 0 ≤ w.a) : ∃ (t : Nat) (w' : W), t < m ∧ 0 ≤ w'.a ∧ F "_law_taken" true [.int (m : Int)] (some w) = some (.int (t : Int), some w') := by
  obtain ⟨t, w', t1, a, e⟩ := h w m (by omega) (by omega) ha
  exact ⟨t, w', by omega, a, e⟩
/-- heights as a row -/
def OkHeights (F : Orc) : Prop := ∀ (w : W) (n : Nat) (m : Int), n < 1000 → 0 ≤ m → m < 1000000 → 0 ≤ w.a → ∃ (h : Nat → Int) (w' : W), RowIn n m h ∧ 0 ≤ w'.a ∧ F "_law_heights" true [.int (n : Int), .int m] (some w) = some (rowT n h, some w')
theorem row_of (hs : List Int) : D.tup (hs.map D.int) = rowT hs.length (fun i => hs.getD i 0) := by
  unfold rowT rowD
  congr 1
  apply List.ext_getElem?
  intro i
  rw [List.getElem?_map, List.getElem?_map]
  by_cases c : i < hs.length
  · rw [List.getElem?_range c, List.getElem?_eq_getElem c]
    simp [List.getD_eq_getElem?_getD, List.getElem?_eq_getElem c]
  · rw [List.getElem?_eq_none (by omega), List.getElem?_eq_none (by rw [List.length_range]; omega)]
    rfl
theorem heights_row (F : Orc) (h : OkDraw F) (w : W) (n : Nat) (m : Int) (h1 : n < 1000) (h2 : 0 ≤ m) (h3 : m < 1000000) (ha : 0 ≤ w.a) :
    ∃ (g : Nat → Int) (w' : W), RowIn n m g ∧ 0 ≤ w'.a ∧ (rss F bHeights [.un, .fr (.int (n : Int)), .fr (.int m), .un] (some w)).bind resD = some (rowT n g, some w') := by
  obtain ⟨hs, w', l, b, a, e⟩ := heights_run F h.taken w n m (by omega) (by omega) h2 h3 ha
  have l' : hs.length = n := by omega
  refine ⟨fun i => hs.getD i 0, w', fun i hi => ?_, a, ?_⟩
  · have hi' : i < hs.length := by omega
    have := b (hs[i]) (List.getElem_mem hi')
    simpa [List.getD_eq_getElem?_getD, List.getElem?_eq_getElem hi'] using this
  · rw [e, row_of, l']
/-! ### the drawn net -/
def dD (m : List (NK × Int)) : List (List Key × D) := m.map fun e => ([Sum.inl (e.1.1 : Int), Sum.inl (e.1.2 : Int)], D.int e.2)
theorem key_eq (a b c d : Nat) : (([Sum.inl (a : Int), Sum.inl (b : Int)] : List Key) = [Sum.inl (c : Int), Sum.inl (d : Int)]) ↔ ((a, b) : NK) = (c, d) := by
  simp only [List.cons.injEq, Sum.inl.injEq, and_true, Prod.mk.injEq]
  omega
theorem putT_dD (m : List (NK × Int)) (a b : Nat) (v : Int) : putT (dD m) [Sum.inl (a : Int), Sum.inl (b : Int)] (.int v) = dD (putN m (a, b) v) := by
  have hany : ((dD m).any fun kv => decide (kv.1 = [Sum.inl (a : Int), Sum.inl (b : Int)])) = (m.any fun e => decide (e.1 = (a, b))) := by
    unfold dD
    rw [List.any_map]
    congr 1
    funext e
    show decide (_ = _) = decide (_ = _)
    exact decide_eq_decide.mpr (key_eq e.1.1 e.1.2 a b)
  unfold putT putN
  rw [hany]
  split
  · unfold dD
    rw [List.map_map, List.map_map]
    refine List.map_congr_left fun e _ => ?_
    show (if ([Sum.inl (e.1.1 : Int), Sum.inl (e.1.2 : Int)] : List Key) = _ then _ else _) = _
    by_cases c : e.1 = (a, b)
    · rw [if_pos ((key_eq _ _ _ _).mpr c)]
      show _ = (fun e : NK × Int => (([Sum.inl (e.1.1 : Int), Sum.inl (e.1.2 : Int)] : List Key), D.int e.2)) (if e.1 = (a, b) then (e.1, v) else e)
      rw [if_pos c]
    · rw [if_neg (fun z => c ((key_eq _ _ _ _).mp z))]
      show _ = (fun e : NK × Int => (([Sum.inl (e.1.1 : Int), Sum.inl (e.1.2 : Int)] : List Key), D.int e.2)) (if e.1 = (a, b) then (e.1, v) else e)
      rw [if_neg c]
  · unfold dD
    rw [List.map_append]
    rfl
theorem getT_dD {m : List (NK × Int)} {k : NK} (h : k ∈ m.map (·.1)) : getT (dD m) [Sum.inl (k.1 : Int), Sum.inl (k.2 : Int)] = some (.int (valN m k)) := by
  obtain ⟨_, e⟩ := valN_mem h
  unfold getT dD
  rw [List.find?_map, Option.map_map]
  have : ((fun kv : List Key × D => decide (kv.1 = [Sum.inl (k.1 : Int), Sum.inl (k.2 : Int)])) ∘ fun e : NK × Int => (([Sum.inl (e.1.1 : Int), Sum.inl (e.1.2 : Int)] : List Key), D.int e.2)) = fun e => decide (e.1 = k) := by
    funext e
    exact decide_eq_decide.mpr (key_eq e.1.1 e.1.2 k.1 k.2)
  rw [this]
  cases q : m.find? fun e => decide (e.1 = k) with
  | none => rw [q] at e; cases e
  | some y =>
    rw [q] at e
    have e' : y.2 = valN m k := by simpa using e
    show some (D.int y.2) = _
    rw [e']
def pD (k : NK) : D := pairD k.1 k.2
theorem keysT_dD (m : List (NK × Int)) : keysT (dD m) = (m.map (·.1)).map pD := by
  unfold keysT dD
  rw [List.map_map, List.map_map]
  rfl
theorem sorted_dD {m : List (NK × Int)} (hl : m.length < 50000) : bltD .sorted [.dT (dD m)] = some (.lst (((m.map (·.1)).mergeSort leN).map pD)) := by
  have hs : sortOk (keysT (dD m)) = true := by
    rw [keysT_dD]
    unfold sortOk
    have h1 : ∀ x ∈ (m.map (·.1)).map pD, ∃ k : NK, x = pD k := fun x hx => by
      obtain ⟨k, _, rfl⟩ := List.mem_map.mp hx
      exact ⟨k, rfl⟩
    simp only [Bool.and_eq_true, List.all_eq_true, Bool.or_eq_true]
    refine ⟨⟨⟨fun x hx => ?_, fun x hx y hy => ?_⟩, .inl fun x hx => ?_⟩, ?_⟩
    · obtain ⟨k, rfl⟩ := h1 x hx
      rfl
    · obtain ⟨k, rfl⟩ := h1 x hx
      obtain ⟨l, rfl⟩ := h1 y hy
      rfl
    · obtain ⟨k, rfl⟩ := h1 x hx
      rfl
    · rw [List.length_map, List.length_map]
      exact okLen_small (by omega)
  show (if sortOk (keysT (dD m)) = true then some (D.lst (sortD (keysT (dD m)))) else none) = _
  rw [if_pos hs, keysT_dD]
  unfold sortD
  rw [List.map_mergeSort (r := leN) (s := fun a b => !ltD b a) (f := pD) fun a _ b _ => by
    show leN a b = !ltD (pairD b.1 b.2) (pairD a.1 a.2)
    rw [ltD_pair]
    rfl]
theorem min2_nat (a b : Nat) : bltD .min2 [.int (a : Int), .int (b : Int)] = some (.int ((min a b : Nat) : Int)) := by
  show some (D.int (if (b : Int) < (a : Int) then (b : Int) else (a : Int))) = _
  congr 2
  split <;> omega
theorem max2_nat (a b : Nat) : bltD .max2 [.int (a : Int), .int (b : Int)] = some (.int ((max a b : Nat) : Int)) := by
  show some (D.int (if (b : Int) > (a : Int) then (b : Int) else (a : Int))) = _
  congr 2
  split <;> omega
def bN1 : List Sx := [.putD 6 (.bin .Add (.int 1) (.callR "_law_taken" [.var 2])) (.tup [.callR "_law_taken" [.var 3], .var 3])]
def bN2 : List Sx := [.par [⟨7, .fr, (.fz []), (.callR "_law_taken" [.var 5])⟩, ⟨8, .fr, (.fz []), (.callR "_law_taken" [.var 5])⟩], .ifS (.cmp .NotEq (.var 7) (.var 8)) [.putD 6 (.bin .Add (.int 1) (.callR "_law_taken" [.var 2])) (.tup [.blt .min2 [.var 7, .var 8], .blt .max2 [.var 7, .var 8]])] []]
theorem dD_len (m : List (NK × Int)) : (dD m).length = m.length := by unfold dD; rw [List.length_map]
theorem n1_step (F : Orc) (h : OkDraw F) {n p lim : Nat} {m : List (NK × Int)} (hn : n ≤ 8) (hl : 1 ≤ lim) (hl2 : lim ≤ 9) (I : NetI n p lim m) (h1 : 1 ≤ p) (hp : p < n) (w : W) (ha : 0 ≤ w.a) (x0 x1 x4 x5 x7 x8 : Sl) :
    ∃ m' w', JS F bN1 [x0, x1, .fr (.int (lim : Int)), .fr (.int (p : Int)), x4, x5, .dt (dD m), x7, x8] (some w) (.nx [x0, x1, .fr (.int (lim : Int)), .fr (.int (p : Int)), x4, x5, .dt (dD m'), x7, x8] (some w')) ∧ NetI n (p + 1) lim m' ∧ 0 ≤ w'.a := by
  obtain ⟨v, w1, v1, a1, e1⟩ := h.at w lim (by omega) (by omega) ha
  obtain ⟨t, w2, t1, a2, e2⟩ := h.at w1 p (by omega) (by omega) a1
  refine ⟨putN m (t, p) (1 + v), w2, ?_, I.grow t1 hp (by omega) (by omega), a2⟩
  rw [← putT_dD]
  have few := I.few
  have : n * n ≤ 64 := Nat.mul_le_mul hn hn
  unfold bN1
  refine jst_putD (w1 := some w1) (w2 := some w2) (d := .int (1 + v)) (ks := [.int (t : Int), .int (p : Int)]) (jem_pk (jev_bin jev_int (jev_callR (jea_cons (jev_var rfl) jea_nil) (by simp) e1) rfl) rfl) (jem_0 (jev_tup (jea_cons (jev_callR (jea_cons (jev_var rfl) jea_nil) (by simp) e2) (jea_cons (jev_var rfl) jea_nil)) (by simp))) rfl rfl (by rw [dD_len]; omega) rfl jst_nil
theorem n2_step (F : Orc) (h : OkDraw F) {n p lim : Nat} {m : List (NK × Int)} (hn : n ≤ 8) (hn1 : 1 ≤ n) (hl : 1 ≤ lim) (hl2 : lim ≤ 9) (I : NetI n p lim m) (w : W) (ha : 0 ≤ w.a) (x0 x1 x3 x4 x7 x8 : Sl) :
    ∃ m' w' x7' x8', JS F bN2 [x0, x1, .fr (.int (lim : Int)), x3, x4, .fr (.int (n : Int)), .dt (dD m), x7, x8] (some w) (.nx [x0, x1, .fr (.int (lim : Int)), x3, x4, .fr (.int (n : Int)), .dt (dD m'), x7', x8'] (some w')) ∧ NetI n p lim m' ∧ 0 ≤ w'.a := by
  obtain ⟨a, w1, b1, a1, e1⟩ := h.at w n (by omega) (by omega) ha
  obtain ⟨b, w2, b2, a2, e2⟩ := h.at w1 n (by omega) (by omega) a1
  have few := I.few
  have : n * n ≤ 64 := Nat.mul_le_mul hn hn
  have hpar : ∀ (rest : List Sx) (r : Res), JS F rest [x0, x1, .fr (.int (lim : Int)), x3, x4, .fr (.int (n : Int)), .dt (dD m), .fr (.int (a : Int)), .fr (.int (b : Int))] (some w2) r → JS F (.par [⟨7, .fr, (.fz []), (.callR "_law_taken" [.var 5])⟩, ⟨8, .fr, (.fz []), (.callR "_law_taken" [.var 5])⟩] :: rest) [x0, x1, .fr (.int (lim : Int)), x3, x4, .fr (.int (n : Int)), .dt (dD m), x7, x8] (some w) r := fun rest r hr =>
    jst_par (jeps_cons (jep_fr (jem_0 (jev_callR (jea_cons (jev_var rfl) jea_nil) (by simp) e1))) (jeps_cons (jep_fr (jem_0 (jev_callR (jea_cons (jev_var rfl) jea_nil) (by simp) e2))) jeps_nil)) rfl hr
  unfold bN2
  by_cases c : a = b
  · refine ⟨m, w2, .fr (.int (a : Int)), .fr (.int (b : Int)), hpar _ _ ?_, I, a2⟩
    refine jst_skip (jev_cmp (jev_var rfl) (jev_var rfl) (cmpD_neI _ _)) ?_ jst_nil
    subst c; simp
  · obtain ⟨v, w3, v1, a3, e3⟩ := h.at w2 lim (by omega) (by omega) a2
    refine ⟨putN m (min a b, max a b) (1 + v), w3, .fr (.int (a : Int)), .fr (.int (b : Int)), hpar _ _ ?_, I.put (by omega) (by omega) (by omega) (by omega), a3⟩
    rw [← putT_dD]
    refine jst_on (jev_cmp (jev_var rfl) (jev_var rfl) (cmpD_neI _ _)) (by simp; omega) ?_
    exact jst_putD (w1 := some w3) (w2 := some w3) (d := .int (1 + v)) (ks := [.int ((min a b : Nat) : Int), .int ((max a b : Nat) : Int)]) (jem_pk (jev_bin jev_int (jev_callR (jea_cons (jev_var rfl) jea_nil) (by simp) e3) rfl) rfl) (jem_0 (jev_tup (jea_cons (jev_blt (jea_cons (jev_var rfl) (jea_cons (jev_var rfl) jea_nil)) (min2_nat a b)) (jea_cons (jev_blt (jea_cons (jev_var rfl) (jea_cons (jev_var rfl) jea_nil)) (max2_nat a b)) jea_nil)) (by simp))) rfl rfl (by rw [dD_len]; omega) rfl jst_nil
def b_law_net : List Sx := [.par [⟨5, .fr, (.fz []), (.bin .Add (.int 1) (.callR "_law_taken" [.var 1]))⟩, ⟨6, .d, .pk, .never⟩], .forS (.n 3) .range (.fz []) [.int 1, .var 5] [.putD 6 (.bin .Add (.int 1) (.callR "_law_taken" [.var 2])) (.tup [.callR "_law_taken" [.var 3], .var 3])], .forS (.n 4) .range (.fz []) [.ite (.cmp .Gt (.var 5) (.int 2)) (.callR "_law_taken" [.int 4]) (.int 0)] [.par [⟨7, .fr, (.fz []), (.callR "_law_taken" [.var 5])⟩, ⟨8, .fr, (.fz []), (.callR "_law_taken" [.var 5])⟩], .ifS (.cmp .NotEq (.var 7) (.var 8)) [.putD 6 (.bin .Add (.int 1) (.callR "_law_taken" [.var 2])) (.tup [.blt .min2 [.var 7, .var 8], .blt .max2 [.var 7, .var 8]])] []], .ret (.tup [.var 5, .blt .tuple [.comp [7, 8] (.t [.n 7, .n 8]) .plain [.blt .sorted [.var 6]] none (.tup [.var 7, .var 8, .idx (.var 6) (.tup [.var 7, .var 8])])]])]
theorem law_net_eq : b_law_net = [.par [⟨5, .fr, (.fz []), (.bin .Add (.int 1) (.callR "_law_taken" [.var 1]))⟩, ⟨6, .d, .pk, .never⟩], .forS (.n 3) .range (.fz []) [.int 1, .var 5] bN1, .forS (.n 4) .range (.fz []) [.ite (.cmp .Gt (.var 5) (.int 2)) (.callR "_law_taken" [.int 4]) (.int 0)] bN2, .ret (.tup [.var 5, .blt .tuple [.comp [7, 8] (.t [.n 7, .n 8]) .plain [.blt .sorted [.var 6]] none (.tup [.var 7, .var 8, .idx (.var 6) (.tup [.var 7, .var 8])])]])] := rfl
def OkNet (F : Orc) : Prop := ∀ (w : W) (most lim : Nat), 1 ≤ most → most ≤ 8 → 1 ≤ lim → lim ≤ 9 → 0 ≤ w.a → ∃ (n : Nat) (rods : List Rod) (w' : W), NetOk n rods ∧ n ≤ most ∧ (∀ r ∈ rods, r.2.2 ≤ lim) ∧ 0 ≤ w'.a ∧ F "_law_net" true [.int (most : Int), .int (lim : Int)] (some w) = some (netD n rods, some w')
theorem law_net_run (F : Orc) (h : OkDraw F) (w : W) (most lim : Nat) (h1 : 1 ≤ most) (h2 : most ≤ 8) (h3 : 1 ≤ lim) (h4 : lim ≤ 9) (ha : 0 ≤ w.a) :
    ∃ (n : Nat) (rods : List Rod) (w' : W), NetOk n rods ∧ n ≤ most ∧ (∀ r ∈ rods, r.2.2 ≤ lim) ∧ 0 ≤ w'.a ∧ (rss F b_law_net [.un, .fr (.int (most : Int)), .fr (.int (lim : Int)), .un, .un, .un, .un, .un, .un] (some w)).bind resD = some (netD n rods, some w') := by
  obtain ⟨t, w1, t1, a1, e1⟩ := h.at w most (by omega) (by omega) ha
  obtain ⟨n, hn⟩ : ∃ n : Nat, n = 1 + t := ⟨_, rfl⟩
  have hn8 : n ≤ 8 := by omega
  obtain ⟨s2, w2, e2, m, x3, z2, rfl, rfl, I, a2⟩ := jl_map (F := F) (tg := .n 3) (body := bN1) (List.range' 1 (n - 1)) natD
    (fun k s w2 => ∃ m x3 z, s = [.un, .fr (.int (most : Int)), .fr (.int (lim : Int)), x3, .un, .fr (.int (n : Int)), .dt (dD m), .un, .un] ∧ w2 = some z ∧ NetI n (k + 1) lim m ∧ 0 ≤ z.a)
    (s := [.un, .fr (.int (most : Int)), .fr (.int (lim : Int)), .un, .un, .fr (.int (n : Int)), .dt (dD []), .un, .un]) (w := some w1)
    ⟨[], _, _, rfl, rfl, ⟨by simp, fun e he => by simp at he, fun q q1 q2 => by omega⟩, a1⟩
    (fun k p s w2 hk ⟨m, y3, z, hs, hw, I, a⟩ => by
      subst hs hw
      obtain ⟨hk1, hk2⟩ := List.getElem?_eq_some_iff.mp hk
      rw [List.getElem_range'] at hk2
      rw [List.length_range'] at hk1
      have hp : p = k + 1 := by omega
      subst hp
      obtain ⟨m', w', e, I', a'⟩ := n1_step F h hn8 h3 h4 I (by omega) (by omega) z a .un (.fr (.int (most : Int))) .un (.fr (.int (n : Int))) .un .un
      exact ⟨_, _, _, rfl, e, m', _, w', rfl, rfl, I', a'⟩)
  rw [List.length_range', show n - 1 + 1 = n by omega] at I
  -- how many more
  obtain ⟨c, w3, a3, hc, e3⟩ : ∃ (c : Nat) (w3 : W), 0 ≤ w3.a ∧ c < 4 ∧ JE F (.ite (.cmp .Gt (.var 5) (.int 2)) (.callR "_law_taken" [.int 4]) (.int 0)) (vwS [.un, .fr (.int (most : Int)), .fr (.int (lim : Int)), x3, .un, .fr (.int (n : Int)), .dt (dD m), .un, .un]) (some z2) (.int (c : Int)) (some w3) := by
    by_cases c : (2 : Int) < (n : Int)
    · obtain ⟨c', w3, c1, a3, e3⟩ := h.at z2 4 (by omega) (by omega) a2
      exact ⟨c', w3, a3, c1, jev_ite_t (by
        have := jev_cmp (F := F) (op := .Gt) (a := .var 5) (b := .int 2) (ρ := vwS [.un, .fr (.int (most : Int)), .fr (.int (lim : Int)), x3, .un, .fr (.int (n : Int)), .dt (dD m), .un, .un]) (w := some z2) (jev_var rfl) jev_int (cmpD_gt _ _)
        rw [decide_eq_true c] at this
        exact this) (jev_callR (jea_cons jev_int jea_nil) (by simp) e3)⟩
    · exact ⟨0, z2, a2, by omega, jev_ite_f (by
        have := jev_cmp (F := F) (op := .Gt) (a := .var 5) (b := .int 2) (ρ := vwS [.un, .fr (.int (most : Int)), .fr (.int (lim : Int)), x3, .un, .fr (.int (n : Int)), .dt (dD m), .un, .un]) (w := some z2) (jev_var rfl) jev_int (cmpD_gt _ _)
        rw [decide_eq_false c] at this
        exact this) jev_int⟩
  obtain ⟨s4, w4, e4, m4, x4, x7, x8, z4, rfl, rfl, I4, a4⟩ := jl_rng (F := F) (tg := .n 4) (body := bN2) c
    (fun k s w2 => ∃ m x4 x7 x8 z, s = [.un, .fr (.int (most : Int)), .fr (.int (lim : Int)), x3, x4, .fr (.int (n : Int)), .dt (dD m), x7, x8] ∧ w2 = some z ∧ NetI n n lim m ∧ 0 ≤ z.a)
    (s := [.un, .fr (.int (most : Int)), .fr (.int (lim : Int)), x3, .un, .fr (.int (n : Int)), .dt (dD m), .un, .un]) (w := some w3)
    ⟨m, _, _, _, _, rfl, rfl, I, a3⟩
    (fun k s w2 hk ⟨m, y4, y7, y8, z, hs, hw, I, a⟩ => by
      subst hs hw
      obtain ⟨m', w', y7', y8', e, I', a'⟩ := n2_step F h hn8 (by omega) h3 h4 I z a .un (.fr (.int (most : Int))) x3 (.fr (.int (k : Int))) y7 y8
      exact ⟨_, _, _, rfl, e, m', _, _, _, w', rfl, rfl, I', a'⟩)
  refine ⟨n, rodsN m4, z4, I4.net (by omega) hn8 (by omega), by omega, fun r hr => ?_, a4, ?_⟩
  · unfold rodsN at hr
    obtain ⟨k, hk, rfl⟩ := List.mem_map.mp hr
    exact (I4.ok _ (valN_mem ((List.mergeSort_perm _ _).mem_iff.mp hk)).1).2.2.2
  have few := I4.few
  have : n * n ≤ 64 := Nat.mul_le_mul hn8 hn8
  have hlen : ((m4.map (·.1)).mergeSort leN).length < 60000 := by
    rw [List.length_mergeSort, List.length_map]; omega
  apply jrun_to
  · rw [law_net_eq]
    refine jst_par (w1 := some w1) (sls := [.fr (.int (n : Int)), .dt []]) (jeps_cons (jep_fr (jem_0 (jev_bin jev_int (jev_callR (jea_cons (jev_var rfl) jea_nil) (by simp) e1) (by rw [hn]; exact rfl)))) (jeps_cons jep_d jeps_nil)) rfl ?_
    refine jst_for (jes_0 (jea_cons jev_int (jea_cons (jev_var rfl) jea_nil))) (rngI2 1 n (by omega) (by omega)) e2 ?_
    refine jst_for (jes_0 (jea_cons e3 jea_nil)) (rngI c (by omega)) e4 ?_
    refine jst_ret (jev_tup (jea_cons (jev_var rfl) (jea_cons (jev_blt (jea_cons (jev_compPA (l := (m4.map (·.1)).mergeSort leN) (enc := pD) (g := fun k => .tup [.int (k.1 : Int), .int (k.2 : Int), .int (valN m4 k)]) (jev_blt (jea_cons (jev_var rfl) jea_nil) (sorted_dD (by omega))) rfl hlen fun k hk => ?_) jea_nil) rfl) jea_nil)) (by simp))
    exact ju rfl (jev_tup (jea_cons (jev_var rfl) (jea_cons (jev_var rfl) (jea_cons (jev_idx (jev_var rfl) (jev_tup (jea_cons (jev_var rfl) (jea_cons (jev_var rfl) jea_nil)) (by simp)) (getT_dD ((List.mergeSort_perm _ _).mem_iff.mp hk))) jea_nil))) (by simp)) rfl
  · show D.tup [.int (n : Int), .tup _] = netD n (rodsN m4)
    unfold netD rodsN
    rw [List.map_map]
    rfl
end Lt

set_option Elab.async false
set_option linter.all false
set_option maxRecDepth 100000
set_option maxHeartbeats 400000
/-! LtRg: plain Lean: what the defs are to do, by name. -/
namespace Lt
open PySem PySem.Spec PyProof.Rows L2
theorem need_row_ok (F : Orc) (h1 : OkTupleOf F) (h2 : OkWithin F) (n : Nat) (r : D) (h : Nat → Int) (R : RowIn n 99 h) :
    (rss F bNeedRow [.fr (.tup [.int (n : Int), r]), .fr (rowT n h), .un, .un] none).bind resD = some (.non, none) := by
  have := need_row_run F h1 h2 n r ((List.range n).map h) (by rw [List.length_map, List.length_range]) (fun x hx => by
    obtain ⟨i, hi, rfl⟩ := List.mem_map.mp hx
    exact R i (List.mem_range.mp hi))
  rw [List.map_map] at this
  exact this
theorem need_place_ok (F : Orc) (h : OkWithin F) (n : Nat) (r : D) (p : Nat) (hp : p < n) : (rss F bNeedPlace [.fr (.tup [.int (n : Int), r]), .fr (.int (p : Int))] none).bind resD = some (.non, none) :=
  need_place_run F h n r p (by omega) (by omega)
theorem table_ok (F : Orc) {n : Nat} {rods : List Rod} {d : Nat → Nat → Int} (N : NetOk n rods) (Di : IsDist n rods d) : (rss F bTableOf [.fr (netD n rods), .un, .un, .un, .un, .un, .un, .un] none).bind resD = some (tblL n d, none) := by
  obtain ⟨f, e, Df⟩ := table_run F N
  rw [e, tblL_congr fun i j hi hj => IsDist.unique N.p1 Df Di hi hj]
theorem NetOk.dist {n : Nat} {rods : List Rod} (N : NetOk n rods) : ∃ d, IsDist n rods d := by
  obtain ⟨f, _, Df⟩ := table_run (fun _ _ _ _ => none) N
  exact ⟨f, Df⟩
/-- one of some numbers -/
def OkPickN (F : Orc) : Prop := ∀ (w : W) (ls : List Nat), ls ≠ [] → ls.length < 1000 → 0 ≤ w.a → ∃ q w', q ∈ ls ∧ 0 ≤ w'.a ∧ F "_law_pick" true [.lst (ls.map natD)] (some w) = some (natD q, some w')
theorem pick_ok (F : Orc) (h : OkDraw F) (w : W) (ls : List Nat) (h1 : ls ≠ []) (h2 : ls.length < 1000) (ha : 0 ≤ w.a) : ∃ q w', q ∈ ls ∧ 0 ≤ w'.a ∧ (rss F bPick [.un, .fr (.lst (ls.map natD))] (some w)).bind resD = some (natD q, some w') := by
  obtain ⟨x, w', hx, a, e⟩ := pick_run F h.taken w (ls.map natD) (by simpa using h1) (by rw [List.length_map]; exact h2) ha
  obtain ⟨q, hq, rfl⟩ := List.mem_map.mp hx
  exact ⟨q, w', hq, a, e⟩
def OkFar (F : Orc) : Prop := ∀ n rods d, NetOk n rods → IsDist n rods d → F "_law_far" false [netD n rods] none = some (tblL n d, none)
def OkHides (F : Orc) : Prop := ∀ n rods d h i j, NetOk n rods → IsDist n rods d → RowIn n 99 h → i < n → j < n → F "hides" false [netD n rods, rowT n h, .int ((i : Nat) : Int), .int ((j : Nat) : Int)] none = some (.bl (hid d h i j), none)
def OkHiders (F : Orc) : Prop := ∀ n rods d h p, NetOk n rods → IsDist n rods d → RowIn n 99 h → p < n → F "hiders" false [netD n rods, rowT n h, .int ((p : Nat) : Int)] none = some (plsT (hidL n d h p), none)
def OkLit (F : Orc) : Prop := ∀ n rods d h, NetOk n rods → IsDist n rods d → RowIn n 99 h → F "lit" false [netD n rods, rowT n h] none = some (plsT (litL n d h), none)
def OkTops (F : Orc) : Prop := ∀ n rods d h, NetOk n rods → IsDist n rods d → RowIn n 99 h → F "tops" false [netD n rods, rowT n h] none = some (topsT n d h, none)
def OkLastHider (F : Orc) : Prop := ∀ n rods d h p, NetOk n rods → IsDist n rods d → RowIn n 99 h → p < n → F "last_hider" false [netD n rods, rowT n h, .int ((p : Nat) : Int)] none = some (natD (lastH n d h p), none)
def OkLawLit (F : Orc) : Prop := ∀ (n : Nat) f h, n ≤ 8 → F "_law_lit" false [tblL n f, rowT n h] none = some (plsL (litL n f h), none)
theorem nrmS {s s2 : Sls} {i : Nat} {d : Sl} (h : s.set i d = s2) : s.set i d = s2 := h
/-- an answer of a def, by its name -/
structure JF (F : Orc) (f : PySem.Str) (ds : List D) (d : D) (w' : Option W) : Prop where
  h : F f false ds none = some (d, w')
theorem okcall {F : Orc} (f : PySem.Str) {ds : List D} {d : D} {w' : Option W} (h : JF F f ds d w') : F f false ds none = some (d, w') := h.h
/-! ### plain data -/
theorem pl_pls (l : List Nat) (h : l.length < 50000) : Pl 1 (plsT l) := .tup (pl_nat l) (by rwa [List.length_map])
theorem pl_plsL (l : List Nat) (h : l.length < 50000) : Pl 1 (plsL l) := .lst (pl_nat l) (by rwa [List.length_map])
theorem pl_rowT (n : Nat) (h : Nat → Int) (hn : n < 50000) : Pl 1 (rowT n h) := .tup (pl_row n h) (by rwa [rowD_len])
theorem pl_tops (n : Nat) (f : Nat → Nat → Int) (h : Nat → Int) (hn : n < 50000) : Pl 2 (topsT n f h) := by
  refine .tup (fun x hx => ?_) (by rw [List.length_map]; exact Nat.lt_of_le_of_lt (litL_len n f h) hn)
  obtain ⟨p, _, rfl⟩ := List.mem_map.mp hx
  refine .tup (fun y hy => ?_) (by simp)
  rcases List.mem_cons.mp hy with z | hy
  · rw [z]; exact .int _ _
  · rw [List.mem_singleton.mp hy]; exact .int _ _
theorem hidL_len (n : Nat) (f : Nat → Nat → Int) (h : Nat → Int) (p : Nat) : (hidL n f h p).length ≤ n := by
  have := List.length_filter_le (fun i => hid f h i p) (List.range n)
  rw [List.length_range] at this
  exact this
theorem OkAlike.le {F : Orc} {m : Nat} (h : ∀ k, k ≤ m → OkAlike F k) {k : Nat} (hk : k ≤ m) : OkAlike F k := h k hk
end Lt

set_option Elab.async false
set_option linter.all false
set_option maxRecDepth 100000
set_option maxHeartbeats 400000
/-! LtRh: plain Lean: roofs, floors, gaps, worst pairs. -/
namespace Lt
open PySem PySem.Spec PyProof.Rows L2
theorem intsD_map {α : Type} (g : α → Int) : ∀ l : List α, intsD (l.map fun a => D.int (g a)) = some (l.map g)
  | [] => rfl
  | a :: l => by rw [List.map_cons, intsD, intsD_map g l]; rfl
theorem bltD_maxL {α : Type} (g : α → Int) {l : List α} (h : l ≠ []) : bltD .maxL [.lst (l.map fun a => D.int (g a))] = some (.int (maxI (l.map g))) := by
  show (intsD _).bind _ = _
  rw [intsD_map, Option.bind_some, if_neg (by simpa using h)]
theorem bltD_minL {α : Type} (g : α → Int) {l : List α} (h : l ≠ []) : bltD .minL [.lst (l.map fun a => D.int (g a))] = some (.int (minI (l.map g))) := by
  show (intsD _).bind _ = _
  rw [intsD_map, Option.bind_some, if_neg (by simpa using h)]
theorem bltD_maxT {n : Nat} (g : Nat → Int) (h : 1 ≤ n) : bltD .maxL [rowT n g] = some (.int (maxI ((List.range n).map g))) := by
  show (intsD _).bind _ = _
  unfold rowD
  rw [intsD_map, Option.bind_some, if_neg (by simp; omega)]
theorem bltD_sumT {n : Nat} (g : Nat → Int) : bltD .sum [rowT n g] = some (.int ((List.range n).map g).sum) := by
  show (intsD _).map _ = _
  unfold rowD
  rw [intsD_map]; rfl
theorem bltD_lenR (n : Nat) (h : Nat → Int) : bltD .len [rowT n h] = some (.int (n : Int)) := by
  show some (D.int ((rowD n h).length : Int)) = _
  rw [rowD_len]
theorem maxI_ge : ∀ (r : List Int) (i : Int), (r.foldl (fun m j => if j > m then j else m) i ∈ i :: r) ∧ ∀ y ∈ i :: r, y ≤ r.foldl (fun m j => if j > m then j else m) i
  | [], i => ⟨by simp, fun y h => by simp at h; subst h; exact Int.le_refl _⟩
  | j :: r, i => by
    obtain ⟨h1, h2⟩ := maxI_ge r (if j > i then j else i)
    rw [List.foldl_cons]
    constructor
    · rcases List.mem_cons.mp h1 with h | h
      · rw [h]; split <;> simp
      · exact List.mem_cons_of_mem _ (List.mem_cons_of_mem _ h)
    · intro y hy
      have h3 := h2 _ List.mem_cons_self
      have h4 : i ≤ (if j > i then j else i) ∧ j ≤ (if j > i then j else i) := by split <;> omega
      rcases List.mem_cons.mp hy with h | h
      · rw [h]; exact Int.le_trans h4.1 h3
      · rcases List.mem_cons.mp h with h | h
        · rw [h]; exact Int.le_trans h4.2 h3
        · exact h2 y (List.mem_cons_of_mem _ h)
theorem minI_le : ∀ (r : List Int) (i : Int), (r.foldl (fun m j => if j < m then j else m) i ∈ i :: r) ∧ ∀ y ∈ i :: r, r.foldl (fun m j => if j < m then j else m) i ≤ y
  | [], i => ⟨by simp, fun y h => by simp at h; subst h; exact Int.le_refl _⟩
  | j :: r, i => by
    obtain ⟨h1, h2⟩ := minI_le r (if j < i then j else i)
    rw [List.foldl_cons]
    constructor
    · rcases List.mem_cons.mp h1 with h | h
      · rw [h]; split <;> simp
      · exact List.mem_cons_of_mem _ (List.mem_cons_of_mem _ h)
    · intro y hy
      have h3 := h2 _ List.mem_cons_self
      have h4 : (if j < i then j else i) ≤ i ∧ (if j < i then j else i) ≤ j := by split <;> omega
      rcases List.mem_cons.mp hy with h | h
      · rw [h]; exact Int.le_trans h3 h4.1
      · rcases List.mem_cons.mp h with h | h
        · rw [h]; exact Int.le_trans h3 h4.2
        · exact h2 y (List.mem_cons_of_mem _ h)
/-- the greatest of some numbers, told by what it is -/
theorem max_at {α : Type} {l : List α} {g : α → Int} (h : l ≠ []) : (∃ a ∈ l, maxI (l.map g) = g a) ∧ ∀ a ∈ l, g a ≤ maxI (l.map g) := by
  cases l with
  | nil => exact absurd rfl h
  | cons a l =>
    obtain ⟨h1, h2⟩ := maxI_ge (l.map g) (g a)
    have h3 : maxI ((a :: l).map g) ∈ (a :: l).map g := h1
    obtain ⟨b, hb, e⟩ := List.mem_map.mp h3
    exact ⟨⟨b, hb, e.symm⟩, fun b hb => h2 _ (List.mem_map.mpr ⟨b, hb, rfl⟩)⟩
theorem min_at {α : Type} {l : List α} {g : α → Int} (h : l ≠ []) : (∃ a ∈ l, minI (l.map g) = g a) ∧ ∀ a ∈ l, minI (l.map g) ≤ g a := by
  cases l with
  | nil => exact absurd rfl h
  | cons a l =>
    obtain ⟨h1, h2⟩ := minI_le (l.map g) (g a)
    have h3 : minI ((a :: l).map g) ∈ (a :: l).map g := h1
    obtain ⟨b, hb, e⟩ := List.mem_map.mp h3
    exact ⟨⟨b, hb, e.symm⟩, fun b hb => h2 _ (List.mem_map.mpr ⟨b, hb, rfl⟩)⟩
theorem max_is {α : Type} {l : List α} {g : α → Int} {m : Int} (h1 : ∃ a ∈ l, g a = m) (h2 : ∀ a ∈ l, g a ≤ m) : maxI (l.map g) = m := by
  obtain ⟨a, ha, e⟩ := h1
  have hl : l ≠ [] := fun z => by rw [z] at ha; simp at ha
  obtain ⟨⟨b, hb, e2⟩, h3⟩ := max_at (g := g) hl
  have := h3 a ha
  have := h2 b hb
  omega
theorem min_is {α : Type} {l : List α} {g : α → Int} {m : Int} (h1 : ∃ a ∈ l, g a = m) (h2 : ∀ a ∈ l, m ≤ g a) : minI (l.map g) = m := by
  obtain ⟨a, ha, e⟩ := h1
  have hl : l ≠ [] := fun z => by rw [z] at ha; simp at ha
  obtain ⟨⟨b, hb, e2⟩, h3⟩ := min_at (g := g) hl
  have := h3 a ha
  have := h2 b hb
  omega
theorem range_ne {n : Nat} (h : 1 ≤ n) : List.range n ≠ [] := by
  intro z
  have := congrArg List.length z
  rw [List.length_range] at this
  simp at this
  omega
def roofF (n : Nat) (f : Nat → Nat → Int) (h : Nat → Int) (p : Nat) : Int := maxI ((List.range n).map fun i => h i - f i p)
def floorF (n : Nat) (f : Nat → Nat → Int) (h : Nat → Int) (p : Nat) : Int := minI ((List.range n).map fun i => h i + f i p)
def OkRoofOf (F : Orc) : Prop := ∀ (n : Nat) f h, 1 ≤ n → n ≤ 8 → F "roof_of" false [tblL n f, rowT n h] none = some (rowT n (roofF n f h), none)
def OkFloorOf (F : Orc) : Prop := ∀ (n : Nat) f h, 1 ≤ n → n ≤ 8 → F "floor_of" false [tblL n f, rowT n h] none = some (rowT n (floorF n f h), none)
def b_roof_of : List Sx := [.set 2 (.fz []) (.blt .len [.var 1]), .ret (.blt .tuple [.comp [3] (.n 3) .range [.var 2] none (.blt .maxL [.comp [4] (.n 4) .range [.var 2] none (.bin .Sub (.idx (.var 1) (.var 4)) (.idx (.idx (.var 0) (.var 4)) (.var 3)))])])]
theorem roof_of_run (F : Orc) {n : Nat} (n1 : 1 ≤ n) (hn : n ≤ 8) {f h} : (rss F b_roof_of [.fr (tblL n f), .fr (rowT n h), .un, .un, .un] none).bind resD = some (rowT n (roofF n f h), none) := by
  apply jrun_to
  unfold b_roof_of
  repeat' (first | exact jev_var rfl | exact jev_int | exact jev_glo | exact jev_bl | exact jev_non | exact jev_str | apply bltD_lenR | (apply bltD_maxL; exact range_ne n1) | omega | apply jev_bin | apply jev_cmp | apply jev_and | apply jev_or | apply jev_not | apply jev_idx | apply jev_chain | apply jev_chain3 | apply jev_iteI | apply jev_tup | apply jev_lst | apply jev_slice | apply jev_call | apply jev_blt | apply jev_isi2 | apply jev_isi | apply jev_neg | exact jea_nil | apply jea_cons | exact jeo_none | apply jeo_some | exact jec_none | apply jec_some | apply jev_compRA | apply jev_compR | apply jev_compPA | apply jev_compP | refine' jt rfl ?_ ?_ ?_ ?_ | refine' ju rfl ?_ ?_ | apply jem_0 | apply jem_pk | apply jem_al | apply jem_fz | apply jes_0 | apply jes_pk | apply jes_fz | apply jst_set | apply jst_new1 | apply jst_expr | apply jst_ret | apply jst_unp | exact jst_nil | apply jst_app | apply jst_par | exact jeps_nil | apply jeps_cons | apply jep_fr | apply jep_l | exact jep_d | intro _ | ((with_reducible apply nrmS); simp only [List.set_cons_zero, List.set_cons_succ]; exact rfl) | apply opD_add | apply opD_sub | apply cmpD_lt | apply cmpD_le | apply cmpD_gt | apply cmpD_ge | apply cmpD_eqI | apply cmpD_neI | (apply idx_rowT; first | assumption | omega) | (apply idx_tblL; first | assumption | omega) | (apply idx_row; first | assumption | omega) | exact rfl | assumption | (simp only [List.length_cons, List.length_nil, List.length_map, List.length_range]; omega))
def b_floor_of : List Sx := [.set 2 (.fz []) (.blt .len [.var 1]), .ret (.blt .tuple [.comp [3] (.n 3) .range [.var 2] none (.blt .minL [.comp [4] (.n 4) .range [.var 2] none (.bin .Add (.idx (.var 1) (.var 4)) (.idx (.idx (.var 0) (.var 4)) (.var 3)))])])]
theorem floor_of_run (F : Orc) {n : Nat} (n1 : 1 ≤ n) (hn : n ≤ 8) {f h} : (rss F b_floor_of [.fr (tblL n f), .fr (rowT n h), .un, .un, .un] none).bind resD = some (rowT n (floorF n f h), none) := by
  apply jrun_to
  unfold b_floor_of
  repeat' (first | exact jev_var rfl | exact jev_int | exact jev_glo | exact jev_bl | exact jev_non | exact jev_str | apply bltD_lenR | (apply bltD_minL; exact range_ne n1) | omega | apply jev_bin | apply jev_cmp | apply jev_and | apply jev_or | apply jev_not | apply jev_idx | apply jev_chain | apply jev_chain3 | apply jev_iteI | apply jev_tup | apply jev_lst | apply jev_slice | apply jev_call | apply jev_blt | apply jev_isi2 | apply jev_isi | apply jev_neg | exact jea_nil | apply jea_cons | exact jeo_none | apply jeo_some | exact jec_none | apply jec_some | apply jev_compRA | apply jev_compR | apply jev_compPA | apply jev_compP | refine' jt rfl ?_ ?_ ?_ ?_ | refine' ju rfl ?_ ?_ | apply jem_0 | apply jem_pk | apply jem_al | apply jem_fz | apply jes_0 | apply jes_pk | apply jes_fz | apply jst_set | apply jst_new1 | apply jst_expr | apply jst_ret | apply jst_unp | exact jst_nil | apply jst_app | apply jst_par | exact jeps_nil | apply jeps_cons | apply jep_fr | apply jep_l | exact jep_d | intro _ | ((with_reducible apply nrmS); simp only [List.set_cons_zero, List.set_cons_succ]; exact rfl) | apply opD_add | apply opD_sub | apply cmpD_lt | apply cmpD_le | apply cmpD_gt | apply cmpD_ge | apply cmpD_eqI | apply cmpD_neI | (apply idx_rowT; first | assumption | omega) | (apply idx_tblL; first | assumption | omega) | (apply idx_row; first | assumption | omega) | exact rfl | assumption | (simp only [List.length_cons, List.length_nil, List.length_map, List.length_range]; omega))
def OkRoof (F : Orc) : Prop := ∀ n rods d h, NetOk n rods → IsDist n rods d → RowIn n 99 h → F "roof" false [netD n rods, rowT n h] none = some (rowT n (roofF n d h), none)
def OkFloor (F : Orc) : Prop := ∀ n rods d h, NetOk n rods → IsDist n rods d → RowIn n 99 h → F "floor" false [netD n rods, rowT n h] none = some (rowT n (floorF n d h), none)
def b_roof (need_both : PySem.Str) : List Sx := [.ret (.call "roof_of" [.call need_both [.var 0, .var 1], .var 1])]
theorem roof_run (F : Orc) {nb : PySem.Str} (h1 : OkNeedBoth nb F) (h2 : OkRoofOf F) {n rods f h} (N : NetOk n rods) (d : IsDist n rods f) (r : RowIn n 99 h) :
    (rss F (b_roof nb) [.fr (netD n rods), .fr (rowT n h)] none).bind resD = some (rowT n (roofF n f h), none) := by
  have hn := N.hi
  have hn1 := N.lo
  apply jrun_to
  unfold b_roof
  repeat' (first | exact jev_var rfl | exact jev_int | exact jev_glo | exact jev_bl | exact jev_non | exact jev_str | exact h1 _ _ _ _ N d r | exact h2 _ _ _ hn1 hn | apply jev_bin | apply jev_cmp | apply jev_and | apply jev_or | apply jev_not | apply jev_idx | apply jev_chain | apply jev_chain3 | apply jev_iteI | apply jev_tup | apply jev_lst | apply jev_slice | apply jev_call | apply jev_blt | apply jev_isi2 | apply jev_isi | apply jev_neg | exact jea_nil | apply jea_cons | exact jeo_none | apply jeo_some | exact jec_none | apply jec_some | apply jev_compRA | apply jev_compR | apply jev_compPA | apply jev_compP | refine' jt rfl ?_ ?_ ?_ ?_ | refine' ju rfl ?_ ?_ | apply jem_0 | apply jem_pk | apply jem_al | apply jem_fz | apply jes_0 | apply jes_pk | apply jes_fz | apply jst_set | apply jst_new1 | apply jst_expr | apply jst_ret | apply jst_unp | exact jst_nil | apply jst_app | apply jst_par | exact jeps_nil | apply jeps_cons | apply jep_fr | apply jep_l | exact jep_d | intro _ | ((with_reducible apply nrmS); simp only [List.set_cons_zero, List.set_cons_succ]; exact rfl) | apply opD_add | apply opD_sub | apply cmpD_lt | apply cmpD_le | apply cmpD_gt | apply cmpD_ge | apply cmpD_eqI | apply cmpD_neI | (apply idx_rowT; first | assumption | omega) | (apply idx_tblL; first | assumption | omega) | (apply idx_row; first | assumption | omega) | exact rfl | assumption | (simp only [List.length_cons, List.length_nil, List.length_map, List.length_range]; omega))
def b_floor (need_both : PySem.Str) : List Sx := [.ret (.call "floor_of" [.call need_both [.var 0, .var 1], .var 1])]
theorem floor_run (F : Orc) {nb : PySem.Str} (h1 : OkNeedBoth nb F) (h2 : OkFloorOf F) {n rods f h} (N : NetOk n rods) (d : IsDist n rods f) (r : RowIn n 99 h) :
    (rss F (b_floor nb) [.fr (netD n rods), .fr (rowT n h)] none).bind resD = some (rowT n (floorF n f h), none) := by
  have hn := N.hi
  have hn1 := N.lo
  apply jrun_to
  unfold b_floor
  repeat' (first | exact jev_var rfl | exact jev_int | exact jev_glo | exact jev_bl | exact jev_non | exact jev_str | exact h1 _ _ _ _ N d r | exact h2 _ _ _ hn1 hn | apply jev_bin | apply jev_cmp | apply jev_and | apply jev_or | apply jev_not | apply jev_idx | apply jev_chain | apply jev_chain3 | apply jev_iteI | apply jev_tup | apply jev_lst | apply jev_slice | apply jev_call | apply jev_blt | apply jev_isi2 | apply jev_isi | apply jev_neg | exact jea_nil | apply jea_cons | exact jeo_none | apply jeo_some | exact jec_none | apply jec_some | apply jev_compRA | apply jev_compR | apply jev_compPA | apply jev_compP | refine' jt rfl ?_ ?_ ?_ ?_ | refine' ju rfl ?_ ?_ | apply jem_0 | apply jem_pk | apply jem_al | apply jem_fz | apply jes_0 | apply jes_pk | apply jes_fz | apply jst_set | apply jst_new1 | apply jst_expr | apply jst_ret | apply jst_unp | exact jst_nil | apply jst_app | apply jst_par | exact jeps_nil | apply jeps_cons | apply jep_fr | apply jep_l | exact jep_d | intro _ | ((with_reducible apply nrmS); simp only [List.set_cons_zero, List.set_cons_succ]; exact rfl) | apply opD_add | apply opD_sub | apply cmpD_lt | apply cmpD_le | apply cmpD_gt | apply cmpD_ge | apply cmpD_eqI | apply cmpD_neI | (apply idx_rowT; first | assumption | omega) | (apply idx_tblL; first | assumption | omega) | (apply idx_row; first | assumption | omega) | exact rfl | assumption | (simp only [List.length_cons, List.length_nil, List.length_map, List.length_range]; omega))
/-! ### worst pairs -/
abbrev Tr := Int × Nat × Nat
def trD (t : Tr) : D := .tup [.int t.1, .int (t.2.1 : Int), .int (t.2.2 : Int)]
def wStep (f : Nat → Nat → Int) (h : Nat → Int) (i : Nat) (t : Tr) (j : Nat) : Tr := if t.1 < h i - h j - f i j then (h i - h j - f i j, i, j) else t
def worstF (n : Nat) (f : Nat → Nat → Int) (h : Nat → Int) : Tr := (List.range n).foldl (fun t i => (List.range n).foldl (wStep f h i) t) (0, 0, 0)
def bW1 : List Sx := [.set 5 (.fz []) (.bin .Sub (.bin .Sub (.idx (.var 1) (.var 3)) (.idx (.var 1) (.var 4))) (.idx (.idx (.var 0) (.var 3)) (.var 4))), .ifS (.cmp .Gt (.var 5) (.idx (.var 2) (.int 0))) [.set 2 (.fz []) (.tup [.var 5, .var 3, .var 4])] []]
def bW2 : List Sx := [.forS (.n 4) .range (.fz []) [.blt .len [.var 1]] bW1]
def b_worst_of : List Sx := [.set 2 (.fz []) (.tup [.int 0, .int 0, .int 0]), .forS (.n 3) .range (.fz []) [.blt .len [.var 1]] [.forS (.n 4) .range (.fz []) [.blt .len [.var 1]] [.set 5 (.fz []) (.bin .Sub (.bin .Sub (.idx (.var 1) (.var 3)) (.idx (.var 1) (.var 4))) (.idx (.idx (.var 0) (.var 3)) (.var 4))), .ifS (.cmp .Gt (.var 5) (.idx (.var 2) (.int 0))) [.set 2 (.fz []) (.tup [.var 5, .var 3, .var 4])] []]], .ret (.var 2)]
theorem worst_of_eq : b_worst_of = [.set 2 (.fz []) (.tup [.int 0, .int 0, .int 0]), .forS (.n 3) .range (.fz []) [.blt .len [.var 1]] bW2, .ret (.var 2)] := rfl
theorem w1_step (F : Orc) {n : Nat} {f h} {i j : Nat} (hi : i < n) (hj : j < n) (t : Tr) (x5 : Sl) :
    ∃ y5, JS F bW1 [.fr (tblL n f), .fr (rowT n h), .fr (trD t), .fr (.int (i : Int)), .fr (.int (j : Int)), x5] none (.nx [.fr (tblL n f), .fr (rowT n h), .fr (trD (wStep f h i t j)), .fr (.int (i : Int)), .fr (.int (j : Int)), y5] none) := by
  refine ⟨.fr (.int (h i - h j - f i j)), ?_⟩
  unfold bW1 wStep
  refine jst_set (d := .int (h i - h j - f i j)) (w1 := none) (jem_0 ?_) (by first | (simp only [List.set_cons_zero, List.set_cons_succ, setPs]; exact rfl) | exact rfl) ?_
  · repeat' (first | exact jev_var rfl | exact jev_int | exact jev_glo | exact jev_bl | exact jev_non | exact jev_str | apply jev_bin | apply jev_cmp | apply jev_and | apply jev_or | apply jev_not | apply jev_idx | apply jev_chain | apply jev_chain3 | apply jev_iteI | apply jev_tup | apply jev_lst | apply jev_slice | apply jev_call | apply jev_blt | apply jev_isi2 | apply jev_isi | apply jev_neg | exact jea_nil | apply jea_cons | exact jeo_none | apply jeo_some | exact jec_none | apply jec_some | apply jev_compRA | apply jev_compR | apply jev_compPA | apply jev_compP | refine' jt rfl ?_ ?_ ?_ ?_ | refine' ju rfl ?_ ?_ | apply jem_0 | apply jem_pk | apply jem_al | apply jem_fz | apply jes_0 | apply jes_pk | apply jes_fz | apply jst_set | apply jst_new1 | apply jst_expr | apply jst_ret | apply jst_unp | exact jst_nil | apply jst_app | apply jst_par | exact jeps_nil | apply jeps_cons | apply jep_fr | apply jep_l | exact jep_d | intro _ | ((with_reducible apply nrmS); simp only [List.set_cons_zero, List.set_cons_succ]; exact rfl) | apply opD_add | apply opD_sub | apply cmpD_lt | apply cmpD_le | apply cmpD_gt | apply cmpD_ge | apply cmpD_eqI | apply cmpD_neI | (apply idx_rowT; first | assumption | omega) | (apply idx_tblL; first | assumption | omega) | (apply idx_row; first | assumption | omega) | exact rfl | assumption | (simp only [List.length_cons, List.length_nil, List.length_map, List.length_range]; omega))
  refine jst_if (t := decide (t.1 < h i - h j - f i j)) (w1 := none) ?_ (fun c => ?_) (fun c => ?_)
  · repeat' (first | exact jev_var rfl | exact jev_int | exact jev_glo | exact jev_bl | exact jev_non | exact jev_str | apply jev_bin | apply jev_cmp | apply jev_and | apply jev_or | apply jev_not | apply jev_idx | apply jev_chain | apply jev_chain3 | apply jev_iteI | apply jev_tup | apply jev_lst | apply jev_slice | apply jev_call | apply jev_blt | apply jev_isi2 | apply jev_isi | apply jev_neg | exact jea_nil | apply jea_cons | exact jeo_none | apply jeo_some | exact jec_none | apply jec_some | apply jev_compRA | apply jev_compR | apply jev_compPA | apply jev_compP | refine' jt rfl ?_ ?_ ?_ ?_ | refine' ju rfl ?_ ?_ | apply jem_0 | apply jem_pk | apply jem_al | apply jem_fz | apply jes_0 | apply jes_pk | apply jes_fz | apply jst_set | apply jst_new1 | apply jst_expr | apply jst_ret | apply jst_unp | exact jst_nil | apply jst_app | apply jst_par | exact jeps_nil | apply jeps_cons | apply jep_fr | apply jep_l | exact jep_d | intro _ | ((with_reducible apply nrmS); simp only [List.set_cons_zero, List.set_cons_succ]; exact rfl) | apply opD_add | apply opD_sub | apply cmpD_lt | apply cmpD_le | apply cmpD_gt | apply cmpD_ge | apply cmpD_eqI | apply cmpD_neI | (apply idx_rowT; first | assumption | omega) | (apply idx_tblL; first | assumption | omega) | (apply idx_row; first | assumption | omega) | exact rfl | assumption | (simp only [List.length_cons, List.length_nil, List.length_map, List.length_range]; omega))
  · rw [if_pos (of_decide_eq_true c)]
    exact jst_set (d := trD (h i - h j - f i j, i, j)) (jem_0 (jev_tup (jea_cons (jev_var rfl) (jea_cons (jev_var rfl) (jea_cons (jev_var rfl) jea_nil))) (by simp))) rfl jst_nil
  · rw [if_neg (of_decide_eq_false c)]
    exact jst_nil
theorem w2_step (F : Orc) {n : Nat} (hn : n ≤ 8) {f h} {i : Nat} (hi : i < n) (t : Tr) (x4 x5 : Sl) :
    ∃ y4 y5, JS F bW2 [.fr (tblL n f), .fr (rowT n h), .fr (trD t), .fr (.int (i : Int)), x4, x5] none (.nx [.fr (tblL n f), .fr (rowT n h), .fr (trD ((List.range n).foldl (wStep f h i) t)), .fr (.int (i : Int)), y4, y5] none) := by
  obtain ⟨s', w', e, y4, y5, rfl, rfl⟩ := jl_rng (F := F) (tg := .n 4) (body := bW1) n
    (fun k s w2 => ∃ y4 y5, s = [.fr (tblL n f), .fr (rowT n h), .fr (trD ((List.range k).foldl (wStep f h i) t)), .fr (.int (i : Int)), y4, y5] ∧ w2 = none)
    (s := [.fr (tblL n f), .fr (rowT n h), .fr (trD t), .fr (.int (i : Int)), x4, x5]) (w := none)
    ⟨_, _, rfl, rfl⟩
    (fun k s w2 hk ⟨y4, y5, hs, hw⟩ => by
      subst hs hw
      obtain ⟨z5, e⟩ := w1_step F (f := f) (h := h) hi hk ((List.range k).foldl (wStep f h i) t) y5
      rw [List.range_succ, List.foldl_append]
      exact ⟨_, _, _, rfl, e, _, _, rfl, rfl⟩)
  refine ⟨y4, y5, ?_⟩
  unfold bW2
  exact jst_for (jes_0 (jea_cons (jev_blt (jea_cons (jev_var rfl) jea_nil) (bltD_lenR n h)) jea_nil)) (rngI n (by omega)) e jst_nil
theorem worst_of_run (F : Orc) {n : Nat} (hn : n ≤ 8) {f h} : (rss F b_worst_of [.fr (tblL n f), .fr (rowT n h), .un, .un, .un, .un] none).bind resD = some (trD (worstF n f h), none) := by
  obtain ⟨s', w', e, y3, y4, y5, rfl, rfl⟩ := jl_rng (F := F) (tg := .n 3) (body := bW2) n
    (fun k s w2 => ∃ y3 y4 y5, s = [.fr (tblL n f), .fr (rowT n h), .fr (trD ((List.range k).foldl (fun t i => (List.range n).foldl (wStep f h i) t) (0, 0, 0))), y3, y4, y5] ∧ w2 = none)
    (s := [.fr (tblL n f), .fr (rowT n h), .fr (trD (0, 0, 0)), .un, .un, .un]) (w := none)
    ⟨_, _, _, rfl, rfl⟩
    (fun k s w2 hk ⟨y3, y4, y5, hs, hw⟩ => by
      subst hs hw
      obtain ⟨z4, z5, e⟩ := w2_step F hn (f := f) (h := h) hk ((List.range k).foldl (fun t i => (List.range n).foldl (wStep f h i) t) (0, 0, 0)) y4 y5
      rw [List.range_succ, List.foldl_append]
      exact ⟨_, _, _, rfl, e, _, _, _, rfl, rfl⟩)
  apply jrun_rt
  rw [worst_of_eq]
  refine jst_set (d := trD (0, 0, 0)) (jem_0 (jev_tup (jea_cons jev_int (jea_cons jev_int (jea_cons jev_int jea_nil))) (by simp))) rfl ?_
  refine jst_for (jes_0 (jea_cons (jev_blt (jea_cons (jev_var rfl) jea_nil) (bltD_lenR n h)) jea_nil)) (rngI n (by omega)) e ?_
  exact jst_ret (jev_var rfl)
def OkWorstOf (F : Orc) : Prop := ∀ (n : Nat) f h, n ≤ 8 → F "worst_of" false [tblL n f, rowT n h] none = some (trD (worstF n f h), none)
def OkWorstPair (F : Orc) : Prop := ∀ n rods d h, NetOk n rods → IsDist n rods d → RowIn n 99 h → F "worst_pair" false [netD n rods, rowT n h] none = some (trD (worstF n d h), none)
def b_worst_pair (need_both : PySem.Str) : List Sx := [.ret (.call "worst_of" [.call need_both [.var 0, .var 1], .var 1])]
theorem worst_pair_run (F : Orc) {nb : PySem.Str} (h1 : OkNeedBoth nb F) (h2 : OkWorstOf F) {n rods f h} (N : NetOk n rods) (d : IsDist n rods f) (r : RowIn n 99 h) :
    (rss F (b_worst_pair nb) [.fr (netD n rods), .fr (rowT n h)] none).bind resD = some (trD (worstF n f h), none) := by
  have hn := N.hi
  apply jrun_to
  unfold b_worst_pair
  repeat' (first | exact jev_var rfl | exact jev_int | exact jev_glo | exact jev_bl | exact jev_non | exact jev_str | exact h1 _ _ _ _ N d r | exact h2 _ _ _ hn | apply jev_bin | apply jev_cmp | apply jev_and | apply jev_or | apply jev_not | apply jev_idx | apply jev_chain | apply jev_chain3 | apply jev_iteI | apply jev_tup | apply jev_lst | apply jev_slice | apply jev_call | apply jev_blt | apply jev_isi2 | apply jev_isi | apply jev_neg | exact jea_nil | apply jea_cons | exact jeo_none | apply jeo_some | exact jec_none | apply jec_some | apply jev_compRA | apply jev_compR | apply jev_compPA | apply jev_compP | refine' jt rfl ?_ ?_ ?_ ?_ | refine' ju rfl ?_ ?_ | apply jem_0 | apply jem_pk | apply jem_al | apply jem_fz | apply jes_0 | apply jes_pk | apply jes_fz | apply jst_set | apply jst_new1 | apply jst_expr | apply jst_ret | apply jst_unp | exact jst_nil | apply jst_app | apply jst_par | exact jeps_nil | apply jeps_cons | apply jep_fr | apply jep_l | exact jep_d | intro _ | ((with_reducible apply nrmS); simp only [List.set_cons_zero, List.set_cons_succ]; exact rfl) | apply opD_add | apply opD_sub | apply cmpD_lt | apply cmpD_le | apply cmpD_gt | apply cmpD_ge | apply cmpD_eqI | apply cmpD_neI | (apply idx_rowT; first | assumption | omega) | (apply idx_tblL; first | assumption | omega) | (apply idx_row; first | assumption | omega) | exact rfl | assumption | (simp only [List.length_cons, List.length_nil, List.length_map, List.length_range]; omega))
/-! ### bad pairs -/
def badB (f : Nat → Nat → Int) (h : Nat → Int) (i j : Nat) : Bool := decide (f i j < (if h i - h j < 0 then -(h i - h j) else h i - h j))
def gapsAt (n : Nat) (f : Nat → Nat → Int) (h : Nat → Int) (i : Nat) : List NK := ((List.range' (i + 1) (n - (i + 1))).filter (badB f h i)).map fun j => (i, j)
def gapsL (n : Nat) (f : Nat → Nat → Int) (h : Nat → Int) : List NK := (List.range n).flatMap (gapsAt n f h)
def gapsT (l : List NK) : D := .tup (l.map pD)
theorem rngJ (i n : Nat) (hi : i < n) (hn : n ≤ 8) : itemsD .range [.int ((i : Int) + 1), .int (n : Int)] = some ((List.range' (i + 1) (n - (i + 1))).map natD) := by
  have := rngI2 (i + 1) n (by omega) (by omega)
  rwa [show (((i + 1 : Nat) : Int)) = (i : Int) + 1 by omega] at this
theorem rngJ_mem {i n j : Nat} (h : j ∈ List.range' (i + 1) (n - (i + 1))) : i < j ∧ j < n := by
  rw [List.mem_range'] at h
  obtain ⟨k, hk, rfl⟩ := h
  omega
/-- for j in l: if c: found.append(m) -/
theorem jl_filt {F : Orc} {w : Option W} {i j : Nat} {c : E} {md : Md} {m : E} {s0 : Sls} {ds0 : List D} (l : List Nat) {p : Nat → Bool} {g : Nat → D} (hi : s0[i]? = some (.l ds0)) (hij : i ≠ j) (hj : j < s0.length) (hl : ds0.length + l.length < 60000)
    (h : ∀ (k : Nat) (ds : List D), k ∈ l → (∃ t, JE F c (vwS (fzA ((s0.set j (.fr (.int (k : Int)))).set i (.l ds)))) w (.bl t) w ∧ t = p k) ∧ (p k = true → ∃ d, JM F m md ((s0.set j (.fr (.int (k : Int)))).set i (.l ds)) w d ((s0.set j (.fr (.int (k : Int)))).set i (.l ds)) w ∧ d = g k)) :
    ∃ x, JL F (.n j) [.ifS c [.app i md m] []] (l.map natD) s0 w (.nx ((s0.set j x).set i (.l (ds0 ++ (l.filter p).map g))) w) := by
  obtain ⟨y, hy⟩ : ∃ y, s0[j]? = some y := ⟨_, List.getElem?_eq_getElem hj⟩
  have hil : i < s0.length := by
    rcases Nat.lt_or_ge i s0.length with z | z
    · exact z
    · rw [List.getElem?_eq_none z] at hi; cases hi
  have sj : s0.set j y = s0 := by
    apply List.ext_getElem?
    intro q
    by_cases e : j = q
    · subst e; rw [List.getElem?_set_self hj, hy]
    · rw [List.getElem?_set_ne e]
  have si : s0.set i (.l ds0) = s0 := by
    apply List.ext_getElem?
    intro q
    by_cases e : i = q
    · subst e; rw [List.getElem?_set_self hil, hi]
    · rw [List.getElem?_set_ne e]
  obtain ⟨s', w', e, x, rfl, rfl⟩ := jl_map (F := F) (tg := .n j) (body := [.ifS c [.app i md m] []]) l natD
    (fun k s w2 => ∃ x, s = (s0.set j x).set i (.l (ds0 ++ ((l.take k).filter p).map g)) ∧ w2 = w) (s := s0) (w := w)
    ⟨y, by rw [sj]; simp [si], rfl⟩
    (fun k a s w2 hk ⟨x, hs, hw⟩ => by
      subst hs hw
      have hset : ∀ ds : List D, (((s0.set j x).set i (.l ds)).set j (.fr (.int (a : Int)))) = (s0.set j (.fr (.int (a : Int)))).set i (.l ds) := fun ds => by
        rw [List.set_comm _ _ hij, List.set_set]
      obtain ⟨⟨t, h1, ht⟩, h2⟩ := h a (ds0 ++ ((l.take k).filter p).map g) (List.mem_of_getElem? hk)
      have hlen : (ds0 ++ ((l.take k).filter p).map g).length < 60000 := by
        rw [List.length_append, List.length_map]
        have := List.length_filter_le p (l.take k)
        rw [List.length_take] at this
        omega
      have ht1 : l.take (k + 1) = l.take k ++ [a] := by
        rw [List.take_succ, hk]; rfl
      refine ⟨(s0.set j (.fr (.int (a : Int)))).set i (.l (ds0 ++ ((l.take k).filter p).map g)), _, _, ?_, ?_, .fr (.int (a : Int)), rfl, rfl⟩
      · show bindS (.n j) (.int (a : Int)) _ = _
        unfold bindS
        rw [if_pos (by simpa using hj), hset]
      · rw [ht1, List.filter_append, List.map_append]
        refine jst_if h1 (fun ht2 => ?_) (fun ht2 => ?_)
        · rw [ht] at ht2
          obtain ⟨d, h3, hd⟩ := h2 ht2
          refine jst_app h3 (ds := ds0 ++ ((l.take k).filter p).map g) (List.getElem?_set_self (by simpa using hil)) hlen ?_ jst_nil
          rw [List.set_set, hd, List.filter_cons_of_pos ht2]
          simp
        · rw [ht] at ht2
          rw [List.filter_cons_of_neg (by rw [ht2]; decide)]
          simp only [List.filter_nil, List.map_nil, List.append_nil]
          exact jst_nil)
  rw [List.take_length] at e
  exact ⟨x, e⟩
def b_pairs_of : List Sx := [.new1 2 (.fz []) (.lst []), .forS (.n 3) .range (.fz []) [.blt .len [.var 1]] [.forS (.n 4) .range (.fz []) [.bin .Add (.var 3) (.int 1), .blt .len [.var 1]] [.ifS (.cmp .Gt (.blt .abs [.bin .Sub (.idx (.var 1) (.var 3)) (.idx (.var 1) (.var 4))]) (.idx (.idx (.var 0) (.var 3)) (.var 4))) [.app 2 (.fz []) (.tup [.var 3, .var 4])] []]], .ret (.var 2)]
def bP1 : List Sx := [.forS (.n 4) .range (.fz []) [.bin .Add (.var 3) (.int 1), .blt .len [.var 1]] [.ifS (.cmp .Gt (.blt .abs [.bin .Sub (.idx (.var 1) (.var 3)) (.idx (.var 1) (.var 4))]) (.idx (.idx (.var 0) (.var 3)) (.var 4))) [.app 2 (.fz []) (.tup [.var 3, .var 4])] []]]
theorem pairs_of_eq : b_pairs_of = [.new1 2 (.fz []) (.lst []), .forS (.n 3) .range (.fz []) [.blt .len [.var 1]] bP1, .ret (.var 2)] := rfl
theorem gapsAt_len (n : Nat) (f : Nat → Nat → Int) (h : Nat → Int) (i : Nat) : (gapsAt n f h i).length ≤ n := by
  unfold gapsAt
  rw [List.length_map]
  have := List.length_filter_le (badB f h i) (List.range' (i + 1) (n - (i + 1)))
  rw [List.length_range'] at this
  omega
theorem gaps_len (n : Nat) (f : Nat → Nat → Int) (h : Nat → Int) : ∀ k, ((List.range k).flatMap (gapsAt n f h)).length ≤ k * n
  | 0 => by simp
  | k + 1 => by
    rw [List.range_succ, List.flatMap_append, List.length_append, show [k].flatMap (gapsAt n f h) = gapsAt n f h k by simp]
    have h1 := gaps_len n f h k
    have h2 := gapsAt_len n f h k
    have h3 : (k + 1) * n = k * n + n := Nat.succ_mul _ _
    omega
theorem p1_step (F : Orc) {n : Nat} (hn : n ≤ 8) {f h} {i : Nat} (hi : i < n) (l : List NK) (hl : l.length ≤ 64) (x4 : Sl) :
    ∃ y4, JS F bP1 [.fr (tblL n f), .fr (rowT n h), .l (l.map pD), .fr (.int (i : Int)), x4] none (.nx [.fr (tblL n f), .fr (rowT n h), .l ((l ++ gapsAt n f h i).map pD), .fr (.int (i : Int)), y4] none) := by
  obtain ⟨x, e⟩ := jl_filt (F := F) (w := none) (i := 2) (j := 4) (List.range' (i + 1) (n - (i + 1))) (p := badB f h i) (g := fun j => pD (i, j)) (ds0 := l.map pD) (s0 := [.fr (tblL n f), .fr (rowT n h), .l (l.map pD), .fr (.int (i : Int)), x4])
    (c := .cmp .Gt (.blt .abs [.bin .Sub (.idx (.var 1) (.var 3)) (.idx (.var 1) (.var 4))]) (.idx (.idx (.var 0) (.var 3)) (.var 4))) (md := .fz []) (m := .tup [.var 3, .var 4])
    rfl (by decide) (by simp) (by rw [List.length_map, List.length_range']; omega) (fun k ds hk => by
      obtain ⟨k1, k2⟩ := rngJ_mem hk
      exact ⟨⟨_, by repeat' (first | exact jev_var rfl | exact jev_int | exact jev_glo | exact jev_bl | exact jev_non | exact jev_str | apply jev_bin | apply jev_cmp | apply jev_and | apply jev_or | apply jev_not | apply jev_idx | apply jev_chain | apply jev_chain3 | apply jev_iteI | apply jev_tup | apply jev_lst | apply jev_slice | apply jev_call | apply jev_blt | apply jev_isi2 | apply jev_isi | apply jev_neg | exact jea_nil | apply jea_cons | exact jeo_none | apply jeo_some | exact jec_none | apply jec_some | apply jev_compRA | apply jev_compR | apply jev_compPA | apply jev_compP | refine' jt rfl ?_ ?_ ?_ ?_ | refine' ju rfl ?_ ?_ | apply jem_0 | apply jem_pk | apply jem_al | apply jem_fz | apply jes_0 | apply jes_pk | apply jes_fz | apply jst_set | apply jst_new1 | apply jst_expr | apply jst_ret | apply jst_unp | exact jst_nil | apply jst_app | apply jst_par | exact jeps_nil | apply jeps_cons | apply jep_fr | apply jep_l | exact jep_d | intro _ | ((with_reducible apply nrmS); simp only [List.set_cons_zero, List.set_cons_succ]; exact rfl) | apply opD_add | apply opD_sub | apply cmpD_lt | apply cmpD_le | apply cmpD_gt | apply cmpD_ge | apply cmpD_eqI | apply cmpD_neI | (apply idx_rowT; first | assumption | omega) | (apply idx_tblL; first | assumption | omega) | (apply idx_row; first | assumption | omega) | exact rfl | assumption | (simp only [List.length_cons, List.length_nil, List.length_map, List.length_range]; omega)), rfl⟩, fun _ => ⟨_, jem_0 (jev_tup (jea_cons (jev_var rfl) (jea_cons (jev_var rfl) jea_nil)) (by simp)), rfl⟩⟩)
  refine ⟨x, ?_⟩
  unfold bP1
  rw [List.map_append]
  unfold gapsAt
  rw [List.map_map]
  exact jst_for (jes_0 (jea_cons (jev_bin (jev_var rfl) jev_int rfl) (jea_cons (jev_blt (jea_cons (jev_var rfl) jea_nil) (bltD_lenR n h)) jea_nil))) (rngJ i n hi hn) e jst_nil
theorem pairs_of_run (F : Orc) {n : Nat} (hn : n ≤ 8) {f h} : (rss F b_pairs_of [.fr (tblL n f), .fr (rowT n h), .un, .un, .un] none).bind resD = some (.lst ((gapsL n f h).map pD), none) := by
  obtain ⟨s', w', e, y3, y4, rfl, rfl⟩ := jl_rng (F := F) (tg := .n 3) (body := bP1) n
    (fun k s w2 => ∃ y3 y4, s = [.fr (tblL n f), .fr (rowT n h), .l (((List.range k).flatMap (gapsAt n f h)).map pD), y3, y4] ∧ w2 = none)
    (s := [.fr (tblL n f), .fr (rowT n h), .l [], .un, .un]) (w := none)
    ⟨_, _, rfl, rfl⟩
    (fun k s w2 hk ⟨y3, y4, hs, hw⟩ => by
      subst hs hw
      have h1 := gaps_len n f h k
      have h2 : k * n ≤ 8 * 8 := Nat.mul_le_mul (by omega) hn
      obtain ⟨z4, e⟩ := p1_step F hn (f := f) (h := h) hk ((List.range k).flatMap (gapsAt n f h)) (by omega) y4
      rw [List.range_succ, List.flatMap_append, show [k].flatMap (gapsAt n f h) = gapsAt n f h k by simp]
      exact ⟨_, _, _, rfl, e, _, _, rfl, rfl⟩)
  apply jrun_rt
  rw [pairs_of_eq]
  refine jst_new1 (jem_0 (jev_lst jea_nil (by simp))) rfl ?_
  refine jst_for (jes_0 (jea_cons (jev_blt (jea_cons (jev_var rfl) jea_nil) (bltD_lenR n h)) jea_nil)) (rngI n (by omega)) e ?_
  exact jst_ret (jev_var rfl)
def OkPairsOf (F : Orc) : Prop := ∀ (n : Nat) f h, n ≤ 8 → F "pairs_of" false [tblL n f, rowT n h] none = some (.lst ((gapsL n f h).map pD), none)
def OkBadPairs (F : Orc) : Prop := ∀ n rods d h, NetOk n rods → IsDist n rods d → RowIn n 99 h → F "bad_pairs" false [netD n rods, rowT n h] none = some (gapsT (gapsL n d h), none)
def b_bad_pairs (need_both : PySem.Str) : List Sx := [.set 2 (.fz []) (.call need_both [.var 0, .var 1]), .ret (.blt .tuple [.call "pairs_of" [.var 2, .var 1]])]
theorem bad_pairs_run (F : Orc) {nb : PySem.Str} (h1 : OkNeedBoth nb F) (h2 : OkPairsOf F) {n rods f h} (N : NetOk n rods) (d : IsDist n rods f) (r : RowIn n 99 h) :
    (rss F (b_bad_pairs nb) [.fr (netD n rods), .fr (rowT n h), .un] none).bind resD = some (gapsT (gapsL n f h), none) := by
  have hn := N.hi
  apply jrun_to
  unfold b_bad_pairs
  repeat' (first | exact jev_var rfl | exact jev_int | exact jev_glo | exact jev_bl | exact jev_non | exact jev_str | exact h1 _ _ _ _ N d r | exact h2 _ _ _ hn | apply jev_bin | apply jev_cmp | apply jev_and | apply jev_or | apply jev_not | apply jev_idx | apply jev_chain | apply jev_chain3 | apply jev_iteI | apply jev_tup | apply jev_lst | apply jev_slice | apply jev_call | apply jev_blt | apply jev_isi2 | apply jev_isi | apply jev_neg | exact jea_nil | apply jea_cons | exact jeo_none | apply jeo_some | exact jec_none | apply jec_some | apply jev_compRA | apply jev_compR | apply jev_compPA | apply jev_compP | refine' jt rfl ?_ ?_ ?_ ?_ | refine' ju rfl ?_ ?_ | apply jem_0 | apply jem_pk | apply jem_al | apply jem_fz | apply jes_0 | apply jes_pk | apply jes_fz | apply jst_set | apply jst_new1 | apply jst_expr | apply jst_ret | apply jst_unp | exact jst_nil | apply jst_app | apply jst_par | exact jeps_nil | apply jeps_cons | apply jep_fr | apply jep_l | exact jep_d | intro _ | ((with_reducible apply nrmS); simp only [List.set_cons_zero, List.set_cons_succ]; exact rfl) | apply opD_add | apply opD_sub | apply cmpD_lt | apply cmpD_le | apply cmpD_gt | apply cmpD_ge | apply cmpD_eqI | apply cmpD_neI | (apply idx_rowT; first | assumption | omega) | (apply idx_tblL; first | assumption | omega) | (apply idx_row; first | assumption | omega) | exact rfl | assumption | (simp only [List.length_cons, List.length_nil, List.length_map, List.length_range]; omega))
/-! ### the first gap -/
/-- a loop that looks for an answer -/
theorem jl_find {F : Orc} {w : Option W} {tg : Tg} {body : List Sx} {α : Type} (enc : α → D) (I : Sls → Prop) (v : α → Option D) : ∀ (l : List α) (s : Sls), I s →
    (∀ a s, a ∈ l → I s → ∃ s1, bindS tg (enc a) s = some s1 ∧ (v a = none → ∃ s', JS F body s1 w (.nx s' w) ∧ I s') ∧ ∀ d, v a = some d → JS F body s1 w (.rt d w)) →
    (l.findSome? v = none → ∃ s', JL F tg body (l.map enc) s w (.nx s' w) ∧ I s') ∧ ∀ d, l.findSome? v = some d → JL F tg body (l.map enc) s w (.rt d w)
  | [], s, h0, _ => ⟨fun _ => ⟨s, ⟨rfl⟩, h0⟩, fun d e => by simp at e⟩
  | a :: l, s, h0, h => by
    obtain ⟨s1, e1, h1, h2⟩ := h a s (by simp) h0
    cases q : v a with
    | some d0 =>
      refine ⟨fun e => by simp [q] at e, fun d e => ⟨?_⟩⟩
      have : d0 = d := by simpa [q] using e
      subst this
      rw [List.map_cons, forL, e1, Option.bind_some, (h2 d0 q).h]; rfl
    | none =>
      obtain ⟨s', e2, h3⟩ := h1 q
      obtain ⟨r1, r2⟩ := jl_find enc I v l s' h3 fun a s ha => h a s (by simp [ha])
      have e3 : (a :: l).findSome? v = l.findSome? v := by simp [q]
      rw [e3]
      refine ⟨fun e => ?_, fun d e => ⟨?_⟩⟩
      · obtain ⟨s2, e4, h4⟩ := r1 e
        refine ⟨s2, ⟨?_⟩, h4⟩
        rw [List.map_cons, forL, e1, Option.bind_some, e2.h]
        exact e4.h
      · rw [List.map_cons, forL, e1, Option.bind_some, e2.h]
        exact (r2 d e).h
def bG1 : List Sx := [.ifS (.cmp .Gt (.blt .abs [.bin .Sub (.idx (.var 1) (.var 2)) (.idx (.var 1) (.var 3))]) (.idx (.idx (.var 0) (.var 2)) (.var 3))) [.ret (.tup [.var 2, .var 3])] []]
def bG2 : List Sx := [.forS (.n 3) .range (.fz []) [.bin .Add (.var 2) (.int 1), .blt .len [.var 1]] bG1]
def b_first_gap : List Sx := [.forS (.n 2) .range (.fz []) [.blt .len [.var 1]] [.forS (.n 3) .range (.fz []) [.bin .Add (.var 2) (.int 1), .blt .len [.var 1]] [.ifS (.cmp .Gt (.blt .abs [.bin .Sub (.idx (.var 1) (.var 2)) (.idx (.var 1) (.var 3))]) (.idx (.idx (.var 0) (.var 2)) (.var 3))) [.ret (.tup [.var 2, .var 3])] []]], .ret (.non)]
theorem first_gap_eq : b_first_gap = [.forS (.n 2) .range (.fz []) [.blt .len [.var 1]] bG2, .ret (.non)] := rfl
def gapV (f : Nat → Nat → Int) (h : Nat → Int) (i j : Nat) : Option D := if badB f h i j = true then some (pD (i, j)) else none
def gap1 (n : Nat) (f : Nat → Nat → Int) (h : Nat → Int) (i : Nat) : Option D := (List.range' (i + 1) (n - (i + 1))).findSome? (gapV f h i)
def gapD (n : Nat) (f : Nat → Nat → Int) (h : Nat → Int) : D := ((List.range n).findSome? (gap1 n f h)).getD .non
theorem g1_step (F : Orc) {n : Nat} {f h} {i j : Nat} (hi : i < n) (hj : j < n) : (badB f h i j = false → JS F bG1 [.fr (tblL n f), .fr (rowT n h), .fr (.int (i : Int)), .fr (.int (j : Int))] none (.nx [.fr (tblL n f), .fr (rowT n h), .fr (.int (i : Int)), .fr (.int (j : Int))] none)) ∧ (badB f h i j = true → JS F bG1 [.fr (tblL n f), .fr (rowT n h), .fr (.int (i : Int)), .fr (.int (j : Int))] none (.rt (pD (i, j)) none)) := by
  have e : JE F (.cmp .Gt (.blt .abs [.bin .Sub (.idx (.var 1) (.var 2)) (.idx (.var 1) (.var 3))]) (.idx (.idx (.var 0) (.var 2)) (.var 3))) (vwS (fzA [.fr (tblL n f), .fr (rowT n h), .fr (.int (i : Int)), .fr (.int (j : Int))])) none (.bl (badB f h i j)) none := by
    unfold badB
    repeat' (first | exact jev_var rfl | exact jev_int | exact jev_glo | exact jev_bl | exact jev_non | exact jev_str | apply jev_bin | apply jev_cmp | apply jev_and | apply jev_or | apply jev_not | apply jev_idx | apply jev_chain | apply jev_chain3 | apply jev_iteI | apply jev_tup | apply jev_lst | apply jev_slice | apply jev_call | apply jev_blt | apply jev_isi2 | apply jev_isi | apply jev_neg | exact jea_nil | apply jea_cons | exact jeo_none | apply jeo_some | exact jec_none | apply jec_some | apply jev_compRA | apply jev_compR | apply jev_compPA | apply jev_compP | refine' jt rfl ?_ ?_ ?_ ?_ | refine' ju rfl ?_ ?_ | apply jem_0 | apply jem_pk | apply jem_al | apply jem_fz | apply jes_0 | apply jes_pk | apply jes_fz | apply jst_set | apply jst_new1 | apply jst_expr | apply jst_ret | apply jst_unp | exact jst_nil | apply jst_app | apply jst_par | exact jeps_nil | apply jeps_cons | apply jep_fr | apply jep_l | exact jep_d | intro _ | ((with_reducible apply nrmS); simp only [List.set_cons_zero, List.set_cons_succ]; exact rfl) | apply opD_add | apply opD_sub | apply cmpD_lt | apply cmpD_le | apply cmpD_gt | apply cmpD_ge | apply cmpD_eqI | apply cmpD_neI | (apply idx_rowT; first | assumption | omega) | (apply idx_tblL; first | assumption | omega) | (apply idx_row; first | assumption | omega) | exact rfl | assumption | (simp only [List.length_cons, List.length_nil, List.length_map, List.length_range]; omega))
  unfold bG1
  exact ⟨fun c => jst_off e c jst_nil, fun c => jst_on e c (jst_ret (jev_tup (jea_cons (jev_var rfl) (jea_cons (jev_var rfl) jea_nil)) (by simp)))⟩
theorem g2_step (F : Orc) {n : Nat} (hn : n ≤ 8) {f h} {i : Nat} (hi : i < n) (x3 : Sl) : (gap1 n f h i = none → ∃ y3, JS F bG2 [.fr (tblL n f), .fr (rowT n h), .fr (.int (i : Int)), x3] none (.nx [.fr (tblL n f), .fr (rowT n h), .fr (.int (i : Int)), y3] none)) ∧ (∀ d, gap1 n f h i = some d → JS F bG2 [.fr (tblL n f), .fr (rowT n h), .fr (.int (i : Int)), x3] none (.rt d none)) := by
  obtain ⟨r1, r2⟩ := jl_find (F := F) (w := none) (tg := .n 3) (body := bG1) natD (fun s => ∃ y3, s = [.fr (tblL n f), .fr (rowT n h), .fr (.int (i : Int)), y3]) (gapV f h i) (List.range' (i + 1) (n - (i + 1))) [.fr (tblL n f), .fr (rowT n h), .fr (.int (i : Int)), x3] ⟨_, rfl⟩
    (fun j s hj ⟨y3, hs⟩ => by
      subst hs
      obtain ⟨j1, j2⟩ := rngJ_mem hj
      obtain ⟨s1, s2⟩ := g1_step F (f := f) (h := h) hi j2
      refine ⟨_, rfl, fun z => ⟨_, s1 ?_, _, rfl⟩, fun d z => ?_⟩
      · unfold gapV at z
        split at z
        · cases z
        · rename_i c; simpa using c
      · unfold gapV at z
        split at z
        · rename_i c
          cases z
          exact s2 c
        · cases z)
  have hm : JN F [.bin .Add (.var 2) (.int 1), .blt .len [.var 1]] (.fz []) [.fr (tblL n f), .fr (rowT n h), .fr (.int (i : Int)), x3] none [.int ((i : Int) + 1), .int (n : Int)] [.fr (tblL n f), .fr (rowT n h), .fr (.int (i : Int)), x3] none :=
    jes_0 (jea_cons (jev_bin (jev_var rfl) jev_int rfl) (jea_cons (jev_blt (jea_cons (jev_var rfl) jea_nil) (bltD_lenR n h)) jea_nil))
  unfold bG2
  refine ⟨fun z => ?_, fun d z => jst_forR hm (rngJ i n hi hn) (r2 d z)⟩
  obtain ⟨s', e, y3, rfl⟩ := r1 z
  exact ⟨y3, jst_for hm (rngJ i n hi hn) e jst_nil⟩
theorem first_gap_run (F : Orc) {n : Nat} (hn : n ≤ 8) {f h} : (rss F b_first_gap [.fr (tblL n f), .fr (rowT n h), .un, .un] none).bind resD = some (gapD n f h, none) := by
  obtain ⟨r1, r2⟩ := jl_find (F := F) (w := none) (tg := .n 2) (body := bG2) natD (fun s => ∃ y2 y3, s = [.fr (tblL n f), .fr (rowT n h), y2, y3]) (gap1 n f h) (List.range n) [.fr (tblL n f), .fr (rowT n h), .un, .un] ⟨_, _, rfl⟩
    (fun i s hi ⟨y2, y3, hs⟩ => by
      subst hs
      obtain ⟨s1, s2⟩ := g2_step F hn (f := f) (h := h) (List.mem_range.mp hi) y3
      refine ⟨_, rfl, fun z => ?_, fun d z => s2 d z⟩
      obtain ⟨z3, e⟩ := s1 z
      exact ⟨_, e, _, _, rfl⟩)
  have hm : JN F [.blt .len [.var 1]] (.fz []) [.fr (tblL n f), .fr (rowT n h), .un, .un] none [.int (n : Int)] [.fr (tblL n f), .fr (rowT n h), .un, .un] none :=
    jes_0 (jea_cons (jev_blt (jea_cons (jev_var rfl) jea_nil) (bltD_lenR n h)) jea_nil)
  apply jrun_rt
  rw [first_gap_eq]
  unfold gapD
  cases q : (List.range n).findSome? (gap1 n f h) with
  | none =>
    obtain ⟨s', e, y2, y3, rfl⟩ := r1 q
    exact jst_for hm (rngI n (by omega)) e (jst_ret jev_non)
  | some d => exact jst_forR hm (rngI n (by omega)) (r2 d q)
def OkFirstGap (F : Orc) : Prop := ∀ (n : Nat) f h, n ≤ 8 → F "first_gap" false [tblL n f, rowT n h] none = some (gapD n f h, none)
def OkSlopeGap (F : Orc) : Prop := ∀ n rods d h, NetOk n rods → IsDist n rods d → RowIn n 99 h → F "slope_gap" false [netD n rods, rowT n h] none = some (gapD n d h, none)
def b_slope_gap (need_both : PySem.Str) : List Sx := [.ret (.call "first_gap" [.call need_both [.var 0, .var 1], .var 1])]
theorem slope_gap_run (F : Orc) {nb : PySem.Str} (h1 : OkNeedBoth nb F) (h2 : OkFirstGap F) {n rods f h} (N : NetOk n rods) (d : IsDist n rods f) (r : RowIn n 99 h) :
    (rss F (b_slope_gap nb) [.fr (netD n rods), .fr (rowT n h)] none).bind resD = some (gapD n f h, none) := by
  have hn := N.hi
  apply jrun_to
  unfold b_slope_gap
  repeat' (first | exact jev_var rfl | exact jev_int | exact jev_glo | exact jev_bl | exact jev_non | exact jev_str | exact h1 _ _ _ _ N d r | exact h2 _ _ _ hn | apply jev_bin | apply jev_cmp | apply jev_and | apply jev_or | apply jev_not | apply jev_idx | apply jev_chain | apply jev_chain3 | apply jev_iteI | apply jev_tup | apply jev_lst | apply jev_slice | apply jev_call | apply jev_blt | apply jev_isi2 | apply jev_isi | apply jev_neg | exact jea_nil | apply jea_cons | exact jeo_none | apply jeo_some | exact jec_none | apply jec_some | apply jev_compRA | apply jev_compR | apply jev_compPA | apply jev_compP | refine' jt rfl ?_ ?_ ?_ ?_ | refine' ju rfl ?_ ?_ | apply jem_0 | apply jem_pk | apply jem_al | apply jem_fz | apply jes_0 | apply jes_pk | apply jes_fz | apply jst_set | apply jst_new1 | apply jst_expr | apply jst_ret | apply jst_unp | exact jst_nil | apply jst_app | apply jst_par | exact jeps_nil | apply jeps_cons | apply jep_fr | apply jep_l | exact jep_d | intro _ | ((with_reducible apply nrmS); simp only [List.set_cons_zero, List.set_cons_succ]; exact rfl) | apply opD_add | apply opD_sub | apply cmpD_lt | apply cmpD_le | apply cmpD_gt | apply cmpD_ge | apply cmpD_eqI | apply cmpD_neI | (apply idx_rowT; first | assumption | omega) | (apply idx_tblL; first | assumption | omega) | (apply idx_row; first | assumption | omega) | exact rfl | assumption | (simp only [List.length_cons, List.length_nil, List.length_map, List.length_range]; omega))
/-- the first gap is the first of the bad pairs -/
theorem findSome_find {α : Type} (p : α → Bool) (g : α → D) : ∀ l : List α, (l.findSome? fun a => if p a = true then some (g a) else none) = ((l.filter p).map g).head?
  | [] => rfl
  | a :: l => by
    by_cases c : p a = true
    · rw [List.filter_cons_of_pos c]; simp [c]
    · rw [List.filter_cons_of_neg c, ← findSome_find p g l]; simp [c]
theorem gapD_is (n : Nat) (f : Nat → Nat → Int) (h : Nat → Int) : gapD n f h = (((gapsL n f h).map pD).head?).getD .non := by
  unfold gapD gapsL
  congr 1
  rw [List.map_flatMap, List.head?_flatMap]
  congr 1
  funext i
  unfold gap1 gapsAt gapV
  rw [findSome_find, List.map_map]
  rfl
/-! ### more plain data -/
theorem rowT_congr {n : Nat} {f g : Nat → Int} (h : ∀ i, i < n → f i = g i) : rowT n f = rowT n g := by
  unfold rowT rowD
  congr 1
  exact List.map_congr_left fun i hi => by rw [h i (List.mem_range.mp hi)]
theorem pl_trD (t : Tr) : Pl 1 (trD t) := .tup (fun x hx => by
  rcases List.mem_cons.mp hx with z | hx
  · rw [z]; exact .int _ _
  · rcases List.mem_cons.mp hx with z | hx
    · rw [z]; exact .int _ _
    · rw [List.mem_singleton.mp hx]; exact .int _ _) (by simp)
theorem pl_pD (k : NK) : Pl 1 (pD k) := .tup (fun x hx => by
  rcases List.mem_cons.mp hx with z | hx
  · rw [z]; exact .int _ _
  · rw [List.mem_singleton.mp hx]; exact .int _ _) (by simp)
theorem pl_gaps (l : List NK) (h : l.length < 50000) : Pl 2 (gapsT l) := .tup (fun x hx => by
  obtain ⟨k, _, rfl⟩ := List.mem_map.mp hx
  exact pl_pD k) (by rwa [List.length_map])
theorem gapsL_len (n : Nat) (hn : n ≤ 8) (f : Nat → Nat → Int) (h : Nat → Int) : (gapsL n f h).length ≤ 64 := by
  have h1 := gaps_len n f h n
  have h2 : n * n ≤ 8 * 8 := Nat.mul_le_mul hn hn
  exact Nat.le_trans h1 h2
theorem cmpD_neNil (l : List Nat) (hl : l.length < 50000) : cmpD .NotEq (.lst (l.map natD)) (.lst []) = some (!decide (l = [])) := by
  show (if (eqOk (.lst (l.map natD)) && eqOk (.lst [])) = true then some (!eqD (.lst (l.map natD)) (.lst [])) else none) = _
  rw [(Pl.lst (pl_nat l) (by rwa [List.length_map])).ok (by decide)]
  cases l with
  | nil => rfl
  | cons a l => rfl
theorem cmpD_ninT (a : Nat) (l : List Nat) : cmpD .NotIn (.int (a : Int)) (plsT l) = some (!decide (a ∈ l)) := by
  show (if (eqOk (.int (a : Int)) && (l.map natD).all eqOk) = true then some (!inD (.int (a : Int)) (l.map natD)) else none) = _
  rw [all_nat, inD_nat]
  rfl
theorem cmpD_ninL (a : Nat) (l : List Nat) : cmpD .NotIn (.int (a : Int)) (plsL l) = some (!decide (a ∈ l)) := by
  show (if (eqOk (.int (a : Int)) && (l.map natD).all eqOk) = true then some (!inD (.int (a : Int)) (l.map natD)) else none) = _
  rw [all_nat, inD_nat]
  rfl
/-- [x for x in l if x not in m] != [] fails, where m holds all of l -/
theorem none_out {l m : List Nat} (h : ∀ a ∈ l, a ∈ m) : l.filter (fun a => !decide (a ∈ m)) = [] := by
  rw [List.filter_eq_nil_iff]
  intro a ha
  simp [h a ha]
end Lt

set_option Elab.async false
set_option linter.all false
set_option maxRecDepth 100000
set_option maxHeartbeats 400000
/-! LtRi: plain Lean: rows with one height changed, gains, lands. -/
namespace Lt
open PySem PySem.Spec PyProof.Rows L2
def updF (h : Nat → Int) (p : Nat) (v : Int) : Nat → Int := fun i => if i = p then v else h i
theorem cut_lo (n : Nat) (h : Nat → Int) {p : Nat} (hp : p < n) : sliceD (rowT n h) none (some (p : Int)) = some (.tup ((rowD n h).take p)) := by
  show some (D.tup (((rowD n h).drop (HT.sIx (rowD n h).length 0 none)).take (HT.sIx (rowD n h).length (rowD n h).length (some (p : Int)) - HT.sIx (rowD n h).length 0 none))) = _
  rw [rowD_len, HT.sIx_nat, HT.sIx_none, List.drop_zero, Nat.sub_zero, Nat.min_eq_left (by omega)]
theorem cut_hi (n : Nat) (h : Nat → Int) {p : Nat} (hp : p < n) : sliceD (rowT n h) (some ((p : Int) + 1)) none = some (.tup ((rowD n h).drop (p + 1))) := by
  show some (D.tup (((rowD n h).drop (HT.sIx (rowD n h).length 0 (some ((p : Int) + 1)))).take (HT.sIx (rowD n h).length (rowD n h).length none - HT.sIx (rowD n h).length 0 (some ((p : Int) + 1))))) = _
  rw [rowD_len, show (p : Int) + 1 = ((p + 1 : Nat) : Int) by omega, HT.sIx_nat, HT.sIx_none, Nat.min_eq_left (by omega)]
  congr 2
  rw [List.take_of_length_le (by rw [List.length_drop, rowD_len]; omega)]
theorem join_upd (n : Nat) (h : Nat → Int) {p : Nat} (hp : p < n) (v : Int) : (rowD n h).take p ++ [D.int v] ++ (rowD n h).drop (p + 1) = rowD n (updF h p v) := by
  apply List.ext_getElem?
  intro i
  have hl : ((rowD n h).take p).length = p := by rw [List.length_take, rowD_len, Nat.min_eq_left (by omega)]
  by_cases c : i < n
  · rw [rowD_get n _ c]
    unfold updF
    by_cases c1 : i < p
    · rw [if_neg (by omega), List.append_assoc, List.getElem?_append_left (by omega), List.getElem?_take_of_lt c1, rowD_get n h c]
    · by_cases c2 : i = p
      · subst c2
        rw [if_pos rfl, List.append_assoc, List.getElem?_append_right (by omega), hl, Nat.sub_self]; rfl
      · rw [if_neg c2, List.getElem?_append_right (by rw [List.length_append, hl]; simp; omega), List.length_append, hl, List.getElem?_drop]
        rw [show p + 1 + (i - (p + [D.int v].length)) = i by simp; omega, rowD_get n h c]
  · rw [List.getElem?_eq_none (by rw [List.length_append, List.length_append, hl, List.length_drop, rowD_len]; simp; omega), List.getElem?_eq_none (by rw [rowD_len]; omega)]
theorem opD_addT {xs ys : List D} (h : xs.length + ys.length < 60000) : opD .Add (.tup xs) (.tup ys) = some (.tup (xs ++ ys)) := by
  show (if okLen (xs.length + ys.length) = true then some (D.tup (xs ++ ys)) else none) = _
  rw [if_pos (okLen_small h)]
/-- row[:p] + (v,) + row[p + 1:] -/
theorem ev_upd {F : Orc} {ρ : Env} {w : Option W} {a b c : E} {n p : Nat} {h : Nat → Int} {v : Int} (hn : n ≤ 1000) (hp : p < n) (ha : JE F a ρ w (rowT n h) w) (hb : JE F b ρ w (.int (p : Int)) w) (hc : JE F c ρ w (.int v) w) :
    JE F (.bin .Add (.bin .Add (.slice a none (some b)) (.tup [c])) (.slice a (some (.bin .Add b (.int 1))) none)) ρ w (rowT n (updF h p v)) w := by
  have l1 : ((rowD n h).take p).length = p := by rw [List.length_take, rowD_len, Nat.min_eq_left (by omega)]
  have l2 : ((rowD n h).drop (p + 1)).length = n - (p + 1) := by rw [List.length_drop, rowD_len]
  have e := join_upd n h hp v
  have r : rowT n (updF h p v) = .tup ((rowD n h).take p ++ [D.int v] ++ (rowD n h).drop (p + 1)) := by rw [e]; rfl
  rw [r]
  refine jev_bin (jev_bin (jev_slice ha jeo_none (jeo_some hb) rfl rfl (cut_lo n h hp)) (jev_tup (jea_cons hc jea_nil) (by simp)) (opD_addT ?_)) (jev_slice ha (jeo_some (jev_bin hb jev_int rfl)) jeo_none rfl rfl (cut_hi n h hp)) (opD_addT ?_)
  · rw [l1]; simp; omega
  · rw [List.length_append, l1, l2]; simp; omega
def OkNeedNumber (F : Orc) : Prop := ∀ v a b : Int, a ≤ v → v ≤ b → F "need_number" false [.int v, .int a, .int b] none = some (.non, none)
def b_need_number : List Sx := [.ifS (.not (.call "within" [.var 0, .var 1, .var 2])) [.never] []]
theorem need_number_run (F : Orc) (h : OkWithin F) (v a b : Int) (h1 : a ≤ v) (h2 : v ≤ b) : (rss F b_need_number [.fr (.int v), .fr (.int a), .fr (.int b)] none).bind resD = some (.non, none) := by
  apply jrun_nx
  unfold b_need_number
  refine jst_skip (jev_not (jev_call (jea_cons (jev_var rfl) (jea_cons (jev_var rfl) (jea_cons (jev_var rfl) jea_nil))) (within_t h h1 h2))) rfl jst_nil
def sumF (n : Nat) (g : Nat → Int) : Int := ((List.range n).map g).sum
def gainF (n : Nat) (f : Nat → Nat → Int) (h : Nat → Int) (p : Nat) (m : Int) : Int := sumF n (roofF n f (updF h p (h p + m))) - sumF n (roofF n f h)
def b_gain_of : List Sx := [.set 4 (.fz []) (.bin .Add (.bin .Add (.slice (.var 1) none (some (.var 2))) (.tup [.bin .Add (.idx (.var 1) (.var 2)) (.var 3)])) (.slice (.var 1) (some (.bin .Add (.var 2) (.int 1))) none)), .ret (.bin .Sub (.blt .sum [.call "roof_of" [.var 0, .var 4]]) (.blt .sum [.call "roof_of" [.var 0, .var 1]]))]
def OkGainOf (F : Orc) : Prop := ∀ (n : Nat) f h p m, 1 ≤ n → n ≤ 8 → p < n → F "gain_of" false [tblL n f, rowT n h, .int ((p : Nat) : Int), .int m] none = some (.int (gainF n f h p m), none)
theorem gain_of_run (F : Orc) (h1 : OkRoofOf F) {n : Nat} (n1 : 1 ≤ n) (hn : n ≤ 8) {f h} {p : Nat} {m : Int} (hp : p < n) :
    (rss F b_gain_of [.fr (tblL n f), .fr (rowT n h), .fr (.int (p : Int)), .fr (.int m), .un] none).bind resD = some (.int (gainF n f h p m), none) := by
  apply jrun_rt
  unfold b_gain_of
  refine jst_set (jem_0 (ev_upd (v := h p + m) (by omega) hp (jev_var rfl) (jev_var rfl) (jev_bin (jev_idx (jev_var rfl) (jev_var rfl) (idx_rowT h hp)) (jev_var rfl) rfl))) rfl ?_
  exact jst_ret (jev_bin (jev_blt (jea_cons (jev_call (jea_cons (jev_var rfl) (jea_cons (jev_var rfl) jea_nil)) (h1 _ _ _ n1 hn)) jea_nil) (bltD_sumT _)) (jev_blt (jea_cons (jev_call (jea_cons (jev_var rfl) (jea_cons (jev_var rfl) jea_nil)) (h1 _ _ _ n1 hn)) jea_nil) (bltD_sumT _)) rfl)
def b_gain (need_both : PySem.Str) : List Sx := [.set 4 (.fz []) (.call need_both [.var 0, .var 1]), .expr (.fz []) (.call "need_place" [.var 0, .var 2]), .expr (.fz []) (.call "need_number" [.var 3, .int 0, .int 99]), .ret (.call "gain_of" [.var 4, .var 1, .var 2, .var 3])]
def OkGain (F : Orc) : Prop := ∀ n rods d h p m, NetOk n rods → IsDist n rods d → RowIn n 99 h → p < n → 0 ≤ m → m ≤ 99 → F "gain" false [netD n rods, rowT n h, .int ((p : Nat) : Int), .int m] none = some (.int (gainF n d h p m), none)
theorem gain_run (F : Orc) {nb : PySem.Str} (h1 : OkNeedBoth nb F) (h2 : OkNeedPlace F) (h3 : OkNeedNumber F) (h4 : OkGainOf F) {n rods f h} (N : NetOk n rods) (d : IsDist n rods f) (r : RowIn n 99 h) {p : Nat} {m : Int} (hp : p < n) (m0 : 0 ≤ m) (m1 : m ≤ 99) :
    (rss F (b_gain nb) [.fr (netD n rods), .fr (rowT n h), .fr (.int (p : Int)), .fr (.int m), .un] none).bind resD = some (.int (gainF n f h p m), none) := by
  apply jrun_rt
  unfold b_gain
  refine jst_set (jem_0 (jev_call (jea_cons (jev_var rfl) (jea_cons (jev_var rfl) jea_nil)) (h1 _ _ _ _ N d r))) rfl ?_
  refine jst_expr (jem_0 (jev_call (jea_cons (jev_var rfl) (jea_cons (jev_var rfl) jea_nil)) (h2 _ _ _ hp))) ?_
  refine jst_expr (jem_0 (jev_call (jea_cons (jev_var rfl) (jea_cons jev_int (jea_cons jev_int jea_nil))) (h3 _ _ _ m0 m1))) ?_
  exact jst_ret (jev_call (jea_cons (jev_var rfl) (jea_cons (jev_var rfl) (jea_cons (jev_var rfl) (jea_cons (jev_var rfl) jea_nil)))) (h4 _ _ _ _ _ N.lo N.hi hp))
/-! ### room -/
def othL (n : Nat) (f : Nat → Nat → Int) (h : Nat → Int) (p : Nat) : List Nat := (litL n f h).filter fun q => !decide ((q : Int) = (p : Int))
def roomD (n : Nat) (f : Nat → Nat → Int) (h : Nat → Int) (p : Nat) : D := if othL n f h p = [] then .non else .int (minI ((othL n f h p).map fun q => h q + f q p - 1) - h p)
theorem othL_len (n : Nat) (f : Nat → Nat → Int) (h : Nat → Int) (p : Nat) : (othL n f h p).length ≤ n := Nat.le_trans (List.length_filter_le _ _) (litL_len n f h)
theorem othL_mem {n : Nat} {f : Nat → Nat → Int} {h : Nat → Int} {p q : Nat} : q ∈ othL n f h p ↔ (q < n ∧ litB n f h q = true) ∧ q ≠ p := by
  unfold othL
  rw [List.mem_filter, litL_mem]
  simp
  intro _ _
  omega
def b_room_to_rise : List Sx := [.expr (.fz []) (.call "need_net" [.var 0]), .expr (.fz []) (.call "need_row" [.var 0, .var 1]), .expr (.fz []) (.call "need_place" [.var 0, .var 2]), .set 3 (.fz []) (.call "table_of" [.var 0]), .set 4 (.fz []) (.comp [5] (.n 5) .plain [.call "lit_of" [.var 3, .var 1]] (some (.cmp .NotEq (.var 5) (.var 2))) (.var 5)), .ifS (.cmp .Eq (.var 4) (.lst [])) [.ret (.non)] [], .ret (.bin .Sub (.blt .minL [.comp [5] (.n 5) .plain [.var 4] none (.bin .Sub (.bin .Add (.idx (.var 1) (.var 5)) (.idx (.idx (.var 3) (.var 5)) (.var 2))) (.int 1))]) (.idx (.var 1) (.var 2)))]
def OkRise (F : Orc) : Prop := ∀ n rods d h p, NetOk n rods → IsDist n rods d → RowIn n 99 h → p < n → F "room_to_rise" false [netD n rods, rowT n h, .int ((p : Nat) : Int)] none = some (roomD n d h p, none)
theorem rise_run (F : Orc) (h1 : OkNeedNet F) (h2 : OkNeedRow F) (h3 : OkNeedPlace F) (h4 : OkTableOf F) (h5 : OkLitOf F) {n rods f h} (N : NetOk n rods) (d : IsDist n rods f) (r : RowIn n 99 h) {p : Nat} (hp : p < n) :
    (rss F b_room_to_rise [.fr (netD n rods), .fr (rowT n h), .fr (.int (p : Int)), .un, .un, .un] none).bind resD = some (roomD n f h p, none) := by
  have n8 := N.hi
  have hl := othL_len n f h p
  have hl2 := litL_len n f h
  apply jrun_rt
  unfold b_room_to_rise
  refine jst_expr (jem_0 (jev_call (jea_cons (jev_var rfl) jea_nil) (h1 _ _ N))) ?_
  refine jst_expr (jem_0 (jev_call (jea_cons (jev_var rfl) (jea_cons (jev_var rfl) jea_nil)) (h2 _ _ _ r))) ?_
  refine jst_expr (jem_0 (jev_call (jea_cons (jev_var rfl) (jea_cons (jev_var rfl) jea_nil)) (h3 _ _ _ hp))) ?_
  refine jst_set (jem_0 (jev_call (jea_cons (jev_var rfl) jea_nil) (h4 _ _ _ N d))) (by first | (simp only [List.set_cons_zero, List.set_cons_succ, setPs]; exact rfl) | exact rfl) ?_
  refine jst_set (w1 := none) (d := plsL (othL n f h p)) (jem_0 ?_) (by first | (simp only [List.set_cons_zero, List.set_cons_succ, setPs]; exact rfl) | exact rfl) ?_
  · unfold plsL othL
    repeat' (first | exact jev_var rfl | exact jev_int | exact jev_glo | exact jev_bl | exact jev_non | exact jev_str | exact h5 _ _ _ n8 | (show (litL n f h).length < 60000; omega) | apply jev_bin | apply jev_cmp | apply jev_and | apply jev_or | apply jev_not | apply jev_idx | apply jev_chain | apply jev_chain3 | apply jev_iteI | apply jev_tup | apply jev_lst | apply jev_slice | apply jev_call | apply jev_blt | apply jev_isi2 | apply jev_isi | apply jev_neg | exact jea_nil | apply jea_cons | exact jeo_none | apply jeo_some | exact jec_none | apply jec_some | apply jev_compRA | apply jev_compR | apply jev_compPA | apply jev_compP | refine' jt rfl ?_ ?_ ?_ ?_ | refine' ju rfl ?_ ?_ | apply jem_0 | apply jem_pk | apply jem_al | apply jem_fz | apply jes_0 | apply jes_pk | apply jes_fz | apply jst_set | apply jst_new1 | apply jst_expr | apply jst_ret | apply jst_unp | exact jst_nil | apply jst_app | apply jst_par | exact jeps_nil | apply jeps_cons | apply jep_fr | apply jep_l | exact jep_d | intro _ | ((with_reducible apply nrmS); simp only [List.set_cons_zero, List.set_cons_succ]; exact rfl) | apply opD_add | apply opD_sub | apply cmpD_lt | apply cmpD_le | apply cmpD_gt | apply cmpD_ge | apply cmpD_eqI | apply cmpD_neI | (apply idx_rowT; first | assumption | omega) | (apply idx_tblL; first | assumption | omega) | (apply idx_row; first | assumption | omega) | exact rfl | assumption | (simp only [List.length_cons, List.length_nil, List.length_map, List.length_range]; omega))
  refine jst_if (jev_cmp (jev_var rfl) (jev_lst jea_nil (by simp)) (cmpD_nil _ (by omega))) (fun c => ?_) (fun c => ?_)
  · unfold roomD
    rw [if_pos (of_decide_eq_true c)]
    exact jst_ret jev_non
  · unfold roomD
    rw [if_neg (of_decide_eq_false c)]
    have hm : ∀ a ∈ othL n f h p, a < n := fun a ha => (othL_mem.mp ha).1.1
    refine jst_ret (jev_bin (jev_blt (jea_cons (jev_compPA (l := othL n f h p) (enc := natD) (g := fun q => .int (h q + f q p - 1)) (jev_var rfl) rfl (by omega) fun q hq => ju rfl (jev_bin (jev_bin (jev_idx (jev_var rfl) (jev_var rfl) (idx_rowT h (hm q hq))) (jev_idx (jev_idx (jev_var rfl) (jev_var rfl) (idx_tblL f (hm q hq))) (jev_var rfl) (idx_row n _ hp)) rfl) jev_int rfl) rfl) jea_nil) (bltD_minL _ (of_decide_eq_false c))) (jev_idx (jev_var rfl) (jev_var rfl) (idx_rowT h hp)) rfl)
/-! ### lands -/
def makL (n : Nat) (f : Nat → Nat → Int) (h : Nat → Int) (p : Nat) : List Nat := (litL n f h).filter fun q => decide (h q - f q p = roofF n f h p)
def OkMakersOf (F : Orc) : Prop := ∀ (n : Nat) f h p, 1 ≤ n → n ≤ 8 → p < n → F "makers_of" false [tblL n f, rowT n h, .int ((p : Nat) : Int)] none = some (plsT (makL n f h p), none)
def b_makers_of : List Sx := [.set 3 (.fz []) (.idx (.call "roof_of" [.var 0, .var 1]) (.var 2)), .ret (.blt .tuple [.comp [4] (.n 4) .plain [.call "lit_of" [.var 0, .var 1]] (some (.cmp .Eq (.bin .Sub (.idx (.var 1) (.var 4)) (.idx (.idx (.var 0) (.var 4)) (.var 2))) (.var 3))) (.var 4)])]
theorem makers_of_run (F : Orc) (h1 : OkRoofOf F) (h2 : OkLitOf F) {n : Nat} (n1 : 1 ≤ n) (n8 : n ≤ 8) {f h} {p : Nat} (hp : p < n) :
    (rss F b_makers_of [.fr (tblL n f), .fr (rowT n h), .fr (.int (p : Int)), .un, .un] none).bind resD = some (plsT (makL n f h p), none) := by
  have hl2 := litL_len n f h
  apply jrun_to
  unfold b_makers_of
  repeat' (first | exact jev_var rfl | exact jev_int | exact jev_glo | exact jev_bl | exact jev_non | exact jev_str | ((with_reducible apply okcall "roof_of"); exact ⟨h1 _ _ _ n1 n8⟩) | ((with_reducible apply okcall "lit_of"); exact ⟨h2 _ _ _ n8⟩) | (apply idx_rowT; exact litL_lt _ (by assumption)) | (apply idx_tblL; exact litL_lt _ (by assumption)) | (show (litL n f h).length < 60000; omega) | apply jev_bin | apply jev_cmp | apply jev_and | apply jev_or | apply jev_not | apply jev_idx | apply jev_chain | apply jev_chain3 | apply jev_iteI | apply jev_tup | apply jev_lst | apply jev_slice | apply jev_call | apply jev_blt | apply jev_isi2 | apply jev_isi | apply jev_neg | exact jea_nil | apply jea_cons | exact jeo_none | apply jeo_some | exact jec_none | apply jec_some | apply jev_compRA | apply jev_compR | apply jev_compPA | apply jev_compP | refine' jt rfl ?_ ?_ ?_ ?_ | refine' ju rfl ?_ ?_ | apply jem_0 | apply jem_pk | apply jem_al | apply jem_fz | apply jes_0 | apply jes_pk | apply jes_fz | apply jst_set | apply jst_new1 | apply jst_expr | apply jst_ret | apply jst_unp | exact jst_nil | apply jst_app | apply jst_par | exact jeps_nil | apply jeps_cons | apply jep_fr | apply jep_l | exact jep_d | intro _ | ((with_reducible apply nrmS); simp only [List.set_cons_zero, List.set_cons_succ]; exact rfl) | apply opD_add | apply opD_sub | apply cmpD_lt | apply cmpD_le | apply cmpD_gt | apply cmpD_ge | apply cmpD_eqI | apply cmpD_neI | (apply idx_rowT; first | assumption | omega) | (apply idx_tblL; first | assumption | omega) | (apply idx_row; first | assumption | omega) | exact rfl | assumption | (simp only [List.length_cons, List.length_nil, List.length_map, List.length_range]; omega))
def OkNeedShown (F : Orc) : Prop := ∀ n rods d h p, NetOk n rods → IsDist n rods d → RowIn n 99 h → p ∈ litL n d h → F "need_shown" false [netD n rods, rowT n h, .int ((p : Nat) : Int)] none = some (tblL n d, none)
def b_need_shown (need_both : PySem.Str) : List Sx := [.set 3 (.fz []) (.call need_both [.var 0, .var 1]), .expr (.fz []) (.call "need_place" [.var 0, .var 2]), .ifS (.cmp .NotIn (.var 2) (.call "lit_of" [.var 3, .var 1])) [.never] [], .ret (.var 3)]
theorem need_shown_run (F : Orc) {nb : PySem.Str} (h1 : OkNeedBoth nb F) (h2 : OkNeedPlace F) (h3 : OkLitOf F) {n rods f h} (N : NetOk n rods) (d : IsDist n rods f) (r : RowIn n 99 h) {p : Nat} (hp : p ∈ litL n f h) :
    (rss F (b_need_shown nb) [.fr (netD n rods), .fr (rowT n h), .fr (.int (p : Int)), .un] none).bind resD = some (tblL n f, none) := by
  have n8 := N.hi
  apply jrun_rt
  unfold b_need_shown
  refine jst_set (jem_0 (jev_call (jea_cons (jev_var rfl) (jea_cons (jev_var rfl) jea_nil)) (h1 _ _ _ _ N d r))) rfl ?_
  refine jst_expr (jem_0 (jev_call (jea_cons (jev_var rfl) (jea_cons (jev_var rfl) jea_nil)) (h2 _ _ _ (litL_lt _ hp)))) ?_
  refine jst_skip (jev_cmp (jev_var rfl) (jev_call (jea_cons (jev_var rfl) (jea_cons (jev_var rfl) jea_nil)) (h3 _ _ _ n8)) (cmpD_ninT _ _)) (by simp [hp]) ?_
  exact jst_ret (jev_var rfl)
def landL (n : Nat) (f : Nat → Nat → Int) (h : Nat → Int) (p : Nat) : List Nat := (List.range n).filter fun q => decide (p ∈ makL n f h q)
def OkLand (F : Orc) : Prop := ∀ n rods d h p, NetOk n rods → IsDist n rods d → RowIn n 99 h → p ∈ litL n d h → F "land" false [netD n rods, rowT n h, .int ((p : Nat) : Int)] none = some (plsT (landL n d h p), none)
def b_land : List Sx := [.set 3 (.fz []) (.call "need_shown" [.var 0, .var 1, .var 2]), .ret (.blt .tuple [.comp [4] (.n 4) .range [.idx (.var 0) (.int 0)] (some (.cmp .In (.var 2) (.call "makers_of" [.var 3, .var 1, .var 4]))) (.var 4)])]
theorem land_run (F : Orc) (h1 : OkNeedShown F) (h2 : OkMakersOf F) {n rods f h} (N : NetOk n rods) (d : IsDist n rods f) (r : RowIn n 99 h) {p : Nat} (hp : p ∈ litL n f h) :
    (rss F b_land [.fr (netD n rods), .fr (rowT n h), .fr (.int (p : Int)), .un, .un] none).bind resD = some (plsT (landL n f h p), none) := by
  have n8 := N.hi
  have n1 := N.lo
  apply jrun_to
  unfold b_land
  repeat' (first | exact jev_var rfl | exact jev_int | exact jev_glo | exact jev_bl | exact jev_non | exact jev_str | ((with_reducible apply okcall "need_shown"); exact ⟨h1 _ _ _ _ _ N d r hp⟩) | ((with_reducible apply okcall "makers_of"); exact ⟨h2 _ _ _ _ n1 n8 (by assumption)⟩) | apply cmpD_inT | omega | apply jev_bin | apply jev_cmp | apply jev_and | apply jev_or | apply jev_not | apply jev_idx | apply jev_chain | apply jev_chain3 | apply jev_iteI | apply jev_tup | apply jev_lst | apply jev_slice | apply jev_call | apply jev_blt | apply jev_isi2 | apply jev_isi | apply jev_neg | exact jea_nil | apply jea_cons | exact jeo_none | apply jeo_some | exact jec_none | apply jec_some | apply jev_compRA | apply jev_compR | apply jev_compPA | apply jev_compP | refine' jt rfl ?_ ?_ ?_ ?_ | refine' ju rfl ?_ ?_ | apply jem_0 | apply jem_pk | apply jem_al | apply jem_fz | apply jes_0 | apply jes_pk | apply jes_fz | apply jst_set | apply jst_new1 | apply jst_expr | apply jst_ret | apply jst_unp | exact jst_nil | apply jst_app | apply jst_par | exact jeps_nil | apply jeps_cons | apply jep_fr | apply jep_l | exact jep_d | intro _ | ((with_reducible apply nrmS); simp only [List.set_cons_zero, List.set_cons_succ]; exact rfl) | apply opD_add | apply opD_sub | apply cmpD_lt | apply cmpD_le | apply cmpD_gt | apply cmpD_ge | apply cmpD_eqI | apply cmpD_neI | (apply idx_rowT; first | assumption | omega) | (apply idx_tblL; first | assumption | omega) | (apply idx_row; first | assumption | omega) | exact rfl | assumption | (simp only [List.length_cons, List.length_nil, List.length_map, List.length_range]; omega))
end Lt

set_option Elab.async false
set_option linter.all false
set_option maxRecDepth 100000
set_option maxHeartbeats 400000
/-! LtRj: plain Lean: comprehensions of two fors; distances, widths, middles. -/
namespace Lt
open PySem PySem.Spec PyProof.Rows L2
theorem compLL_gen {α : Type} (enc : α → D) (f : D → Option W → Option (List D × Option W)) (g : α → List D) (w : Option W) : ∀ (l : List α), (∀ a ∈ l, f (enc a) w = some (g a, w)) → compLL f (l.map enc) w = some (l.flatMap g, w)
  | [], _ => rfl
  | a :: l, h => by
    have e := compLL_gen enc f g w l fun x hx => h x (by simp [hx])
    simp only [List.map_cons, compLL, h a (by simp), e, Option.bind_some, Option.map_some, List.flatMap_cons]
/-- a turn of the second walk -/
structure JV (F : Orc) (own : List Nat) (tg : Tg) (tg1 : Tg) (ik1 : IK) (es1 : List E) (elt : E) (ρ : Env) (w : Option W) {β : Type} (a : D) (m : List β) (enc1 : β → D) (g : β → D) : Prop where
  h : ∃ ρ1, bindT tg a (wipeE ρ own) = some ρ1 ∧ ∃ ds1, evs F es1 ρ1 w = some (ds1, w) ∧ itemsD ik1 ds1 = some (m.map enc1) ∧ ∀ b ∈ m, JU F tg1.slots tg1 elt ρ1 w (enc1 b) (g b)
theorem jv {F : Orc} {own : List Nat} {tg tg1 : Tg} {ik1 : IK} {es1 : List E} {elt : E} {ρ ρ1 : Env} {w : Option W} {β : Type} {a : D} {m : List β} {enc1 : β → D} {g : β → D} {ds1 : List D} (h1 : bindT tg a (wipeE ρ own) = some ρ1) (h2 : JA F es1 ρ1 w ds1 w) (h3 : itemsD ik1 ds1 = some (m.map enc1)) (h4 : ∀ b ∈ m, JU F tg1.slots tg1 elt ρ1 w (enc1 b) (g b)) : JV F own tg tg1 ik1 es1 elt ρ w a m enc1 g :=
  ⟨_, h1, _, h2.h, h3, h4⟩
theorem jev_comp2 {F : Orc} {ρ : Env} {w : Option W} {α β : Type} {own : List Nat} {tg tg1 : Tg} {ik ik1 : IK} {es es1 : List E} {elt : E} {ds : List D} (l : List α) (enc : α → D) (m : α → List β) (enc1 : β → D) (g : α → β → D) (h1 : JA F es ρ w ds w) (h2 : itemsD ik ds = some (l.map enc))
    (h3 : ∀ a ∈ l, JV F own tg tg1 ik1 es1 elt ρ w (enc a) (m a) enc1 (g a)) (h4 : (l.flatMap fun a => (m a).map (g a)).length < 60000) : JE F (.comp2 own tg ik es none tg1 ik1 es1 none elt) ρ w (.lst (l.flatMap fun a => (m a).map (g a))) w := by
  refine ⟨?_⟩
  rw [ev, h1.h, Option.bind_some, h2, Option.bind_some]
  have e : compLL (fun d w1 => (bindT tg d (wipeE ρ own)).bind fun ρ1 => (evc F none ρ1 w1).bind fun t => if t.1 then (evs F es1 ρ1 t.2).bind fun x1 => (itemsD ik1 x1.1).bind fun its1 =>
          compL (fun d1 w2 => (bindT tg1 d1 (wipeE ρ1 tg1.slots)).bind fun ρ2 => (evc F none ρ2 w2).bind fun t1 => if t1.1 then (ev F elt ρ2 t1.2).map fun r => (some r.1, r.2) else some (none, t1.2)) its1 x1.2
        else some ([], t.2)) (l.map enc) w = some (l.flatMap fun a => (m a).map (g a), w) := by
    refine compLL_gen enc _ _ w l fun a ha => ?_
    obtain ⟨ρ1, e1, ds1, e2, e3, e4⟩ := (h3 a ha).h
    rw [e1, Option.bind_some, show evc F none ρ1 w = some (true, w) from ec_none, Option.bind_some]
    dsimp only
    rw [if_pos rfl, e2, Option.bind_some]
    dsimp only
    rw [e3, Option.bind_some]
    have := compL_gen enc1 (fun d1 w2 => (bindT tg1 d1 (wipeE ρ1 tg1.slots)).bind fun ρ2 => (evc F none ρ2 w2).bind fun t1 => if t1.1 then (ev F elt ρ2 t1.2).map fun r => (some r.1, r.2) else some (none, t1.2)) (fun b => some (g a b)) w (m a) fun b hb => by
      obtain ⟨ρ2, e5, d, e6, e7⟩ := (e4 b hb).h
      rw [e5, Option.bind_some, show evc F none ρ2 w = some (true, w) from ec_none, Option.bind_some]
      dsimp only
      rw [if_pos rfl, e6, e7]
      rfl
    rw [this, List.filterMap_eq_map']
  rw [e, Option.bind_some, if_pos (okLen_small h4)]
theorem seq_tbl (n : Nat) (f : Nat → Nat → Int) : seqD (tblL n f) = some ((List.range n).map fun i => D.lst (rowD n (f i))) := by
  show some ((tblD n f).map D.lst) = _
  rw [tbl_map]
theorem bltD_maxR {n : Nat} (g : Nat → Int) (h : 1 ≤ n) : bltD .maxL [.lst (rowD n g)] = some (.int (maxI ((List.range n).map g))) := by
  unfold rowD
  exact bltD_maxL g (range_ne h)
theorem bltD_minR {n : Nat} (g : Nat → Int) (h : 1 ≤ n) : bltD .minL [.lst (rowD n g)] = some (.int (minI ((List.range n).map g))) := by
  unfold rowD
  exact bltD_minL g (range_ne h)
def mxF (n : Nat) (d : Nat → Nat → Int) (i : Nat) : Int := maxI ((List.range n).map (d i))
def widI (n : Nat) (d : Nat → Nat → Int) : Int := maxI ((List.range n).map (mxF n d))
def pairsL (n : Nat) : List NK := (List.range n).flatMap fun i => (List.range' (i + 1) (n - (i + 1))).map fun j => (i, j)
def distT (n : Nat) (d : Nat → Nat → Int) : D := .tup ((List.range n).map fun i => rowT n (d i))
def midL (n : Nat) (d : Nat → Nat → Int) : List Nat := (List.range n).filter fun p => decide (mxF n d p = minI ((List.range n).map (mxF n d)))
def farL (n : Nat) (d : Nat → Nat → Int) : List NK := (pairsL n).filter fun k => decide (d k.1 k.2 = widI n d)
def betL (n : Nat) (d : Nat → Nat → Int) (i j : Nat) : List Nat := (List.range n).filter fun p => decide (d i p + d p j = d i j)
def OkDistances (F : Orc) : Prop := ∀ n rods d, NetOk n rods → IsDist n rods d → F "distances" false [netD n rods] none = some (distT n d, none)
def OkFarP (F : Orc) : Prop := ∀ n rods d i j, NetOk n rods → IsDist n rods d → i < n → j < n → F "far" false [netD n rods, .int ((i : Nat) : Int), .int ((j : Nat) : Int)] none = some (.int (d i j), none)
def OkWidth (F : Orc) : Prop := ∀ n rods d, NetOk n rods → IsDist n rods d → F "width" false [netD n rods] none = some (.int (widI n d), none)
def OkMiddles (F : Orc) : Prop := ∀ n rods d, NetOk n rods → IsDist n rods d → F "middle_places" false [netD n rods] none = some (plsT (midL n d), none)
def OkFarthest (F : Orc) : Prop := ∀ n rods d, NetOk n rods → IsDist n rods d → F "farthest_pairs" false [netD n rods] none = some (gapsT (farL n d), none)
def OkBetween (F : Orc) : Prop := ∀ n rods d i j, NetOk n rods → IsDist n rods d → i < n → j < n → F "between" false [netD n rods, .int ((i : Nat) : Int), .int ((j : Nat) : Int)] none = some (plsT (betL n d i j), none)
def treeB (n : Nat) (rods : List Rod) : Bool := decide ((rods.length : Int) = (n : Int) - 1)
def OkIsTree (F : Orc) : Prop := ∀ n rods, NetOk n rods → F "is_tree" false [netD n rods] none = some (.bl (treeB n rods), none)
def OkLawPairs (F : Orc) : Prop := ∀ n : Nat, n ≤ 8 → F "_law_pairs" false [.int (n : Int)] none = some (.lst ((pairsL n).map pD), none)
section
variable (F : Orc) {n : Nat} {rods : List Rod} {d : Nat → Nat → Int}
def b_distances : List Sx := [.expr (.fz []) (.call "need_net" [.var 0]), .ret (.blt .tuple [.comp [1] (.n 1) .plain [.call "table_of" [.var 0]] none (.blt .tuple [.var 1])])]
theorem distances_run (h1 : OkNeedNet F) (h2 : OkTableOf F) (N : NetOk n rods) (Di : IsDist n rods d) : (rss F b_distances [.fr (netD n rods), .un] none).bind resD = some (distT n d, none) := by
  have n8 := N.hi
  apply jrun_rt
  unfold b_distances
  refine jst_expr (jem_0 (jev_call (jea_cons (jev_var rfl) jea_nil) (h1 _ _ N))) ?_
  exact jst_ret (jev_blt (jea_cons (jev_compPA (l := List.range n) (enc := fun i => D.lst (rowD n (d i))) (g := fun i => rowT n (d i)) (jev_call (jea_cons (jev_var rfl) jea_nil) (h2 _ _ _ N Di)) (seq_tbl n d) (by rw [List.length_range]; omega) fun i hi => ju rfl (jev_blt (jea_cons (jev_var rfl) jea_nil) rfl) rfl) jea_nil) rfl)
def b_far : List Sx := [.expr (.fz []) (.call "need_net" [.var 0]), .expr (.fz []) (.call "need_place" [.var 0, .var 1]), .expr (.fz []) (.call "need_place" [.var 0, .var 2]), .ret (.idx (.idx (.call "table_of" [.var 0]) (.var 1)) (.var 2))]
theorem far_run (h1 : OkNeedNet F) (h2 : OkNeedPlace F) (h3 : OkTableOf F) (N : NetOk n rods) (Di : IsDist n rods d) {i j : Nat} (hi : i < n) (hj : j < n) : (rss F b_far [.fr (netD n rods), .fr (.int (i : Int)), .fr (.int (j : Int))] none).bind resD = some (.int (d i j), none) := by
  apply jrun_rt
  unfold b_far
  refine jst_expr (jem_0 (jev_call (jea_cons (jev_var rfl) jea_nil) (h1 _ _ N))) ?_
  refine jst_expr (jem_0 (jev_call (jea_cons (jev_var rfl) (jea_cons (jev_var rfl) jea_nil)) (h2 _ _ _ hi))) ?_
  refine jst_expr (jem_0 (jev_call (jea_cons (jev_var rfl) (jea_cons (jev_var rfl) jea_nil)) (h2 _ _ _ hj))) ?_
  exact jst_ret (jev_idx (jev_idx (jev_call (jea_cons (jev_var rfl) jea_nil) (h3 _ _ _ N Di)) (jev_var rfl) (idx_tblL d hi)) (jev_var rfl) (idx_row n _ hj))
def b_width : List Sx := [.expr (.fz []) (.call "need_net" [.var 0]), .ret (.blt .maxL [.comp [1] (.n 1) .plain [.call "table_of" [.var 0]] none (.blt .maxL [.var 1])])]
theorem width_run (h1 : OkNeedNet F) (h2 : OkTableOf F) (N : NetOk n rods) (Di : IsDist n rods d) : (rss F b_width [.fr (netD n rods), .un] none).bind resD = some (.int (widI n d), none) := by
  have n8 := N.hi
  apply jrun_rt
  unfold b_width
  refine jst_expr (jem_0 (jev_call (jea_cons (jev_var rfl) jea_nil) (h1 _ _ N))) ?_
  exact jst_ret (jev_blt (jea_cons (jev_compPA (l := List.range n) (enc := fun i => D.lst (rowD n (d i))) (g := fun i => .int (mxF n d i)) (jev_call (jea_cons (jev_var rfl) jea_nil) (h2 _ _ _ N Di)) (seq_tbl n d) (by rw [List.length_range]; omega) fun i hi => ju rfl (jev_blt (jea_cons (jev_var rfl) jea_nil) (bltD_maxR _ N.lo)) rfl) jea_nil) (bltD_maxL _ (range_ne N.lo)))
def b_middle_places : List Sx := [.expr (.fz []) (.call "need_net" [.var 0]), .set 1 (.fz []) (.comp [2] (.n 2) .plain [.call "table_of" [.var 0]] none (.blt .maxL [.var 2])), .ret (.blt .tuple [.comp [3] (.n 3) .range [.idx (.var 0) (.int 0)] (some (.cmp .Eq (.idx (.var 1) (.var 3)) (.blt .minL [.var 1]))) (.var 3)])]
theorem middles_run (h1 : OkNeedNet F) (h2 : OkTableOf F) (N : NetOk n rods) (Di : IsDist n rods d) : (rss F b_middle_places [.fr (netD n rods), .un, .un, .un] none).bind resD = some (plsT (midL n d), none) := by
  have n8 := N.hi
  have n1 := N.lo
  apply jrun_to
  unfold b_middle_places
  refine jst_expr (jem_0 (jev_call (jea_cons (jev_var rfl) jea_nil) (h1 _ _ N))) ?_
  refine jst_set (w1 := none) (d := .lst (rowD n (mxF n d))) (jem_0 (jev_compPA (l := List.range n) (enc := fun i => D.lst (rowD n (d i))) (g := fun i => .int (mxF n d i)) (jev_call (jea_cons (jev_var rfl) jea_nil) (h2 _ _ _ N Di)) (seq_tbl n d) (by rw [List.length_range]; omega) fun i hi => ju rfl (jev_blt (jea_cons (jev_var rfl) jea_nil) (bltD_maxR _ N.lo)) rfl)) (by first | (simp only [List.set_cons_zero, List.set_cons_succ, setPs]; exact rfl) | exact rfl) ?_
  apply jst_ret
  repeat' (first | exact jev_var rfl | exact jev_int | exact jev_glo | exact jev_bl | exact jev_non | exact jev_str | exact bltD_minR _ n1 | omega | apply jev_bin | apply jev_cmp | apply jev_and | apply jev_or | apply jev_not | apply jev_idx | apply jev_chain | apply jev_chain3 | apply jev_iteI | apply jev_tup | apply jev_lst | apply jev_slice | apply jev_call | apply jev_blt | apply jev_isi2 | apply jev_isi | apply jev_neg | exact jea_nil | apply jea_cons | exact jeo_none | apply jeo_some | exact jec_none | apply jec_some | apply jev_compRA | apply jev_compR | apply jev_compPA | apply jev_compP | refine' jt rfl ?_ ?_ ?_ ?_ | refine' ju rfl ?_ ?_ | apply jem_0 | apply jem_pk | apply jem_al | apply jem_fz | apply jes_0 | apply jes_pk | apply jes_fz | apply jst_set | apply jst_new1 | apply jst_expr | apply jst_ret | apply jst_unp | exact jst_nil | apply jst_app | apply jst_par | exact jeps_nil | apply jeps_cons | apply jep_fr | apply jep_l | exact jep_d | intro _ | ((with_reducible apply nrmS); simp only [List.set_cons_zero, List.set_cons_succ]; exact rfl) | apply opD_add | apply opD_sub | apply cmpD_lt | apply cmpD_le | apply cmpD_gt | apply cmpD_ge | apply cmpD_eqI | apply cmpD_neI | (apply idx_rowT; first | assumption | omega) | (apply idx_tblL; first | assumption | omega) | (apply idx_row; first | assumption | omega) | exact rfl | assumption | (simp only [List.length_cons, List.length_nil, List.length_map, List.length_range]; omega))
def b_between : List Sx := [.expr (.fz []) (.call "need_net" [.var 0]), .expr (.fz []) (.call "need_place" [.var 0, .var 1]), .expr (.fz []) (.call "need_place" [.var 0, .var 2]), .set 3 (.fz []) (.call "table_of" [.var 0]), .set 4 (.fz []) (.idx (.idx (.var 3) (.var 1)) (.var 2)), .ret (.blt .tuple [.comp [5] (.n 5) .range [.idx (.var 0) (.int 0)] (some (.cmp .Eq (.bin .Add (.idx (.idx (.var 3) (.var 1)) (.var 5)) (.idx (.idx (.var 3) (.var 5)) (.var 2))) (.var 4))) (.var 5)])]
theorem between_run (h1 : OkNeedNet F) (h2 : OkNeedPlace F) (h3 : OkTableOf F) (N : NetOk n rods) (Di : IsDist n rods d) {i j : Nat} (hi : i < n) (hj : j < n) : (rss F b_between [.fr (netD n rods), .fr (.int (i : Int)), .fr (.int (j : Int)), .un, .un, .un] none).bind resD = some (plsT (betL n d i j), none) := by
  have n8 := N.hi
  apply jrun_to
  unfold b_between
  refine jst_expr (jem_0 (jev_call (jea_cons (jev_var rfl) jea_nil) (h1 _ _ N))) ?_
  refine jst_expr (jem_0 (jev_call (jea_cons (jev_var rfl) (jea_cons (jev_var rfl) jea_nil)) (h2 _ _ _ hi))) ?_
  refine jst_expr (jem_0 (jev_call (jea_cons (jev_var rfl) (jea_cons (jev_var rfl) jea_nil)) (h2 _ _ _ hj))) ?_
  refine jst_set (w1 := none) (jem_0 (jev_call (jea_cons (jev_var rfl) jea_nil) (h3 _ _ _ N Di))) (by first | (simp only [List.set_cons_zero, List.set_cons_succ, setPs]; exact rfl) | exact rfl) ?_
  refine jst_set (w1 := none) (d := .int (d i j)) (jem_0 (jev_idx (jev_idx (jev_var rfl) (jev_var rfl) (idx_tblL d hi)) (jev_var rfl) (idx_row n _ hj))) (by first | (simp only [List.set_cons_zero, List.set_cons_succ, setPs]; exact rfl) | exact rfl) ?_
  apply jst_ret
  repeat' (first | exact jev_var rfl | exact jev_int | exact jev_glo | exact jev_bl | exact jev_non | exact jev_str | omega | apply jev_bin | apply jev_cmp | apply jev_and | apply jev_or | apply jev_not | apply jev_idx | apply jev_chain | apply jev_chain3 | apply jev_iteI | apply jev_tup | apply jev_lst | apply jev_slice | apply jev_call | apply jev_blt | apply jev_isi2 | apply jev_isi | apply jev_neg | exact jea_nil | apply jea_cons | exact jeo_none | apply jeo_some | exact jec_none | apply jec_some | apply jev_compRA | apply jev_compR | apply jev_compPA | apply jev_compP | refine' jt rfl ?_ ?_ ?_ ?_ | refine' ju rfl ?_ ?_ | apply jem_0 | apply jem_pk | apply jem_al | apply jem_fz | apply jes_0 | apply jes_pk | apply jes_fz | apply jst_set | apply jst_new1 | apply jst_expr | apply jst_ret | apply jst_unp | exact jst_nil | apply jst_app | apply jst_par | exact jeps_nil | apply jeps_cons | apply jep_fr | apply jep_l | exact jep_d | intro _ | ((with_reducible apply nrmS); simp only [List.set_cons_zero, List.set_cons_succ]; exact rfl) | apply opD_add | apply opD_sub | apply cmpD_lt | apply cmpD_le | apply cmpD_gt | apply cmpD_ge | apply cmpD_eqI | apply cmpD_neI | (apply idx_rowT; first | assumption | omega) | (apply idx_tblL; first | assumption | omega) | (apply idx_row; first | assumption | omega) | exact rfl | assumption | (simp only [List.length_cons, List.length_nil, List.length_map, List.length_range]; omega))
def b_is_tree : List Sx := [.expr (.fz []) (.call "need_net" [.var 0]), .ret (.cmp .Eq (.blt .len [.idx (.var 0) (.int 1)]) (.bin .Sub (.idx (.var 0) (.int 0)) (.int 1)))]
theorem is_tree_run (h1 : OkNeedNet F) (N : NetOk n rods) : (rss F b_is_tree [.fr (netD n rods)] none).bind resD = some (.bl (treeB n rods), none) := by
  have e : bltD .len [.tup (rods.map rodD)] = some (.int (rods.length : Int)) := by
    show some (D.int ((rods.map rodD).length : Int)) = _
    rw [List.length_map]
  apply jrun_rt
  unfold b_is_tree
  refine jst_expr (jem_0 (jev_call (jea_cons (jev_var rfl) jea_nil) (h1 _ _ N))) ?_
  exact jst_ret (jev_cmp (jev_blt (jea_cons (jev_idx (jev_var rfl) jev_int rfl) jea_nil) e) (jev_bin (jev_idx (jev_var rfl) jev_int rfl) jev_int rfl) (cmpD_eqI _ _))
theorem pairs_len (n : Nat) (hn : n ≤ 8) : ∀ k, k ≤ n → ((List.range k).flatMap fun i => (List.range' (i + 1) (n - (i + 1))).map fun j => ((i, j) : NK)).length ≤ k * 8
  | 0, _ => by simp
  | k + 1, hk => by
    have h1 := pairs_len n hn k (by omega)
    rw [List.range_succ, List.flatMap_append, List.length_append, show [k].flatMap (fun i => (List.range' (i + 1) (n - (i + 1))).map fun j => ((i, j) : NK)) = (List.range' (k + 1) (n - (k + 1))).map fun j => ((k, j) : NK) by simp, List.length_map, List.length_range']
    omega
theorem pairsL_len (n : Nat) (hn : n ≤ 8) : (pairsL n).length ≤ 64 := by
  have := pairs_len n hn n (Nat.le_refl _)
  exact Nat.le_trans this (by omega)
theorem pairsL_mem {n : Nat} {k : NK} (h : k ∈ pairsL n) : k.1 < n ∧ k.2 < n := by
  unfold pairsL at h
  obtain ⟨i, hi, hk⟩ := List.mem_flatMap.mp h
  obtain ⟨j, hj, rfl⟩ := List.mem_map.mp hk
  exact ⟨List.mem_range.mp hi, (rngJ_mem hj).2⟩
theorem idx_pD0 (k : NK) : idxD (pD k) (.int 0) = some (.int (k.1 : Int)) := rfl
theorem idx_pD1 (k : NK) : idxD (pD k) (.int 1) = some (.int (k.2 : Int)) := rfl
def b_farthest_pairs : List Sx := [.expr (.fz []) (.call "need_net" [.var 0]), .set 1 (.fz []) (.call "table_of" [.var 0]), .set 2 (.fz []) (.blt .maxL [.comp [6] (.n 6) .plain [.var 1] none (.blt .maxL [.var 6])]), .set 3 (.fz []) (.comp2 [4, 5] (.n 4) .range [.idx (.var 0) (.int 0)] none (.n 5) .range [.bin .Add (.var 4) (.int 1), .idx (.var 0) (.int 0)] none (.tup [.var 4, .var 5])), .ret (.blt .tuple [.comp [7] (.n 7) .plain [.var 3] (some (.cmp .Eq (.idx (.idx (.var 1) (.idx (.var 7) (.int 0))) (.idx (.var 7) (.int 1))) (.var 2))) (.var 7)])]
theorem farthest_run (h1 : OkNeedNet F) (h2 : OkTableOf F) (N : NetOk n rods) (Di : IsDist n rods d) : (rss F b_farthest_pairs [.fr (netD n rods), .un, .un, .un, .un, .un, .un, .un] none).bind resD = some (gapsT (farL n d), none) := by
  have n8 := N.hi
  have n1 := N.lo
  have pl := pairsL_len n n8
  apply jrun_rt
  unfold b_farthest_pairs
  refine jst_expr (jem_0 (jev_call (jea_cons (jev_var rfl) jea_nil) (h1 _ _ N))) ?_
  refine jst_set (w1 := none) (jem_0 (jev_call (jea_cons (jev_var rfl) jea_nil) (h2 _ _ _ N Di))) (by first | (simp only [List.set_cons_zero, List.set_cons_succ, setPs]; exact rfl) | exact rfl) ?_
  refine jst_set (w1 := none) (d := .int (widI n d)) (jem_0 (jev_blt (jea_cons (jev_compPA (l := List.range n) (enc := fun i => D.lst (rowD n (d i))) (g := fun i => .int (mxF n d i)) (jev_var rfl) (seq_tbl n d) (by rw [List.length_range]; omega) fun i hi => ju rfl (jev_blt (jea_cons (jev_var rfl) jea_nil) (bltD_maxR _ N.lo)) rfl) jea_nil) (bltD_maxL _ (range_ne N.lo)))) (by first | (simp only [List.set_cons_zero, List.set_cons_succ, setPs]; exact rfl) | exact rfl) ?_
  have ep : (List.range n).flatMap (fun i => (List.range' (i + 1) (n - (i + 1))).map fun j => pD (i, j)) = (pairsL n).map pD := by
    unfold pairsL
    rw [List.map_flatMap]
    congr 1
    funext i
    rw [List.map_map]
    rfl
  refine jst_set (w1 := none) (d := .lst ((pairsL n).map pD)) (jem_0 ?_) (by first | (simp only [List.set_cons_zero, List.set_cons_succ, setPs]; exact rfl) | exact rfl) ?_
  · rw [← ep]
    refine jev_comp2 (List.range n) natD (fun i => List.range' (i + 1) (n - (i + 1))) natD (fun i j => pD (i, j)) (jea_cons (jev_idx (jev_var rfl) jev_int rfl) jea_nil) (rngI n (by omega)) (fun i hi => ?_) (by rw [ep, List.length_map]; omega)
    exact jv rfl (jea_cons (jev_bin (jev_var rfl) jev_int rfl) (jea_cons (jev_idx (jev_var rfl) jev_int rfl) jea_nil)) (rngJ i n (List.mem_range.mp hi) n8) fun j hj => ju rfl (jev_tup (jea_cons (jev_var rfl) (jea_cons (jev_var rfl) jea_nil)) (by simp)) rfl
  have := jev_compP (F := F) (ρ := vwS (fzA [.fr (netD n rods), .fr (tblL n d), .fr (.int (widI n d)), .fr (.lst ((pairsL n).map pD)), .un, .un, .un, .un])) (w := none) (own := [7]) (tg := .n 7) (e := .var 3) (cond := .cmp .Eq (.idx (.idx (.var 1) (.idx (.var 7) (.int 0))) (.idx (.var 7) (.int 1))) (.var 2)) (elt := .var 7)
    (l := pairsL n) (enc := pD) (p := fun k => decide (d k.1 k.2 = widI n d)) (g := pD) (jev_var rfl) rfl (by omega) fun k hk => jt rfl (jec_some (jev_cmp (jev_idx (jev_idx (jev_var rfl) (jev_idx (jev_var rfl) jev_int (idx_pD0 k)) (idx_tblL d (pairsL_mem hk).1)) (jev_idx (jev_var rfl) jev_int (idx_pD1 k)) (idx_row n _ (pairsL_mem hk).2)) (jev_var rfl) (cmpD_eqI _ _))) rfl (fun _ => jev_var rfl) rfl
  exact jst_ret (jev_blt (jea_cons this jea_nil) rfl)
def b_law_pairs : List Sx := [.set 1 (.fz []) (.lst []), .forS (.n 2) .range (.fz []) [.var 0] [.set 1 (.fz []) (.bin .Add (.var 1) (.comp [3] (.n 3) .range [.bin .Add (.var 2) (.int 1), .var 0] none (.tup [.var 2, .var 3])))], .ret (.var 1)]
theorem law_pairs_run (n8 : n ≤ 8) : (rss F b_law_pairs [.fr (.int (n : Int)), .un, .un, .un] none).bind resD = some (.lst ((pairsL n).map pD), none) := by
  obtain ⟨s', w', e, y2, rfl, rfl⟩ := jl_rng (F := F) (tg := .n 2) (w := none) (s := [.fr (.int (n : Int)), .fr (.lst []), .un, .un]) (body := [.set 1 (.fz []) (.bin .Add (.var 1) (.comp [3] (.n 3) .range [.bin .Add (.var 2) (.int 1), .var 0] none (.tup [.var 2, .var 3])))]) n
    (fun k s w2 => ∃ y2, s = [.fr (.int (n : Int)), .fr (.lst (((List.range k).flatMap fun i => (List.range' (i + 1) (n - (i + 1))).map fun j => ((i, j) : NK)).map pD)), y2, .un] ∧ w2 = none)
    ⟨_, rfl, rfl⟩
    (fun k s w2 hk ⟨y2, hs, hw⟩ => by
      subst hs hw
      have h1 := pairs_len n n8 k (by omega)
      rw [List.range_succ, List.flatMap_append, show [k].flatMap (fun i => (List.range' (i + 1) (n - (i + 1))).map fun j => ((i, j) : NK)) = (List.range' (k + 1) (n - (k + 1))).map fun j => ((k, j) : NK) by simp, List.map_append, List.map_map]
      refine ⟨_, _, _, rfl, jst_set (w1 := none) (jem_0 (jev_bin (jev_var rfl) (jev_compA (List.range' (k + 1) (n - (k + 1))) natD (g := fun j => pD (k, j)) (jea_cons (jev_bin (jev_var rfl) jev_int rfl) (jea_cons (jev_var rfl) jea_nil)) (rngJ k n hk n8) (fun j hj => ju rfl (jev_tup (jea_cons (jev_var rfl) (jea_cons (jev_var rfl) jea_nil)) (by simp)) rfl) (by rw [List.length_range']; omega)) (opD_addL ?_))) rfl jst_nil, _, rfl, rfl⟩
      rw [List.length_map, List.length_map, List.length_range']
      omega)
  apply jrun_rt
  unfold b_law_pairs
  refine jst_set (w1 := none) (jem_0 (jev_lst jea_nil (by simp))) (by first | (simp only [List.set_cons_zero, List.set_cons_succ, setPs]; exact rfl) | exact rfl) ?_
  refine jst_for (jes_0 (jea_cons (jev_var rfl) jea_nil)) (rngI n (by omega)) e ?_
  exact jst_ret (jev_var rfl)
end
end Lt

set_option Elab.async false
set_option linter.all false
set_option maxRecDepth 100000
set_option maxHeartbeats 400000
/-! LtRk: plain Lean: told heights, drawn slope rows. -/
namespace Lt
open PySem PySem.Spec PyProof.Rows L2
def optD : Option Int → D
  | none => .non
  | some i => .int i
def toldL (n : Nat) (t : Nat → Option Int) : List D := (List.range n).map fun i => optD (t i)
def toldT (n : Nat) (t : Nat → Option Int) : D := .tup (toldL n t)
theorem toldL_len (n : Nat) (t : Nat → Option Int) : (toldL n t).length = n := by simp [toldL]
theorem idx_told {n : Nat} (t : Nat → Option Int) {i : Nat} (h : i < n) : idxD (toldT n t) (.int (i : Int)) = some (optD (t i)) := by
  show atI (toldL n t) (i : Int) = _
  unfold atI
  rw [toldL_len, ixN_nat h]
  simp [toldL, h]
theorem bltD_lenTold (n : Nat) (t : Nat → Option Int) : bltD .len [toldT n t] = some (.int (n : Int)) := by
  show some (D.int ((toldL n t).length : Int)) = _
  rw [toldL_len]
theorem cmpD_isnt (o : Option Int) : cmpD .IsNot (optD o) .non = some o.isSome := by cases o <;> rfl
def tv (t : Nat → Option Int) (i : Nat) : Int := (t i).getD 0
theorem optD_tv {t : Nat → Option Int} {i : Nat} (h : (t i).isSome = true) : optD (t i) = .int (tv t i) := by
  unfold tv
  cases e : t i with
  | none => rw [e] at h; cases h
  | some v => rfl
def ToldIn (n : Nat) (t : Nat → Option Int) : Prop := ∀ i, i < n → ∀ v, t i = some v → 0 ≤ v ∧ v ≤ 99
def OkNeedTold (F : Orc) : Prop := ∀ (n : Nat) (r : D) t, ToldIn n t → F "need_told" false [.tup [.int (n : Int), r], toldT n t] none = some (.non, none)
theorem enumD_getI : ∀ (l : List D) (k i : Nat), (enumD k l)[i]? = l[i]?.map fun x => D.tup [.int ((k + i : Nat) : Int), x]
  | [], _, _ => by simp [enumD]
  | x :: l, k, 0 => by simp [enumD]
  | x :: l, k, i + 1 => by
    have := enumD_getI l (k + 1) i
    simp only [enumD, List.getElem?_cons_succ]
    rw [this, show k + 1 + i = k + (i + 1) by omega]
theorem enum_told (n : Nat) (t : Nat → Option Int) : itemsD .enum [toldT n t] = some ((List.range n).map fun (i : Nat) => D.tup [.int (i : Int), optD (t i)]) := by
  show some (enumD 0 (toldL n t)) = _
  congr 1
  apply List.ext_getElem?
  intro i
  rw [enumD_getI, List.getElem?_map]
  unfold toldL
  rw [List.getElem?_map]
  by_cases h : i < n
  · rw [List.getElem?_range h]; simp
  · rw [List.getElem?_eq_none (by rw [List.length_range]; omega)]; rfl
def b_need_told : List Sx := [.ifS (.not (.call "tuple_of" [.var 1, .idx (.var 0) (.int 0), .idx (.var 0) (.int 0)])) [.never] [], .forS (.t [.n 2, .n 3]) .enum (.fz []) [.var 1] [.ifS (.and (.cmp .IsNot (.var 3) (.non)) (.not (.call "within" [.var 3, .int 0, .glo "MOST_HEIGHT" 99]))) [.never] []]]
theorem need_told_run (F : Orc) (h1 : OkTupleOf F) (h2 : OkWithin F) (n : Nat) (r : D) (t : Nat → Option Int) (T : ToldIn n t) :
    (rss F b_need_told [.fr (.tup [.int (n : Int), r]), .fr (toldT n t), .un, .un] none).bind resD = some (.non, none) := by
  obtain ⟨s', w', e, y2, y3, rfl, rfl⟩ := jl_map (F := F) (w := none) (tg := .t [.n 2, .n 3]) (body := [.ifS (.and (.cmp .IsNot (.var 3) (.non)) (.not (.call "within" [.var 3, .int 0, .glo "MOST_HEIGHT" 99]))) [.never] []]) (List.range n) (fun (i : Nat) => D.tup [.int (i : Int), optD (t i)])
    (fun k s w2 => ∃ y2 y3, s = [.fr (.tup [.int (n : Int), r]), .fr (toldT n t), y2, y3] ∧ w2 = none)
    (s := [.fr (.tup [.int (n : Int), r]), .fr (toldT n t), .un, .un]) ⟨_, _, rfl, rfl⟩
    (fun k i s w2 hk ⟨y2, y3, hs, hw⟩ => by
      subst hs hw
      have hi := List.mem_range.mp (List.mem_of_getElem? hk)
      refine ⟨[.fr (.tup [.int (n : Int), r]), .fr (toldT n t), .fr (.int (i : Int)), .fr (optD (t i))], _, none, rfl, ?_, .fr (.int (i : Int)), .fr (optD (t i)), rfl, rfl⟩
      cases e : t i with
      | none => exact jst_skip (jev_and (t := false) (u := false) (jev_cmp (jev_var rfl) jev_non rfl) (fun z => by cases z)) rfl jst_nil
      | some v =>
        obtain ⟨v0, v1⟩ := T i hi v e
        exact jst_skip (jev_and (t := true) (jev_cmp (jev_var rfl) jev_non rfl) (fun _ => jev_not (jev_call (jea_cons (jev_var rfl) (jea_cons jev_int (jea_cons jev_glo jea_nil))) (within_t h2 v0 v1)))) rfl jst_nil)
  apply jrun_nx
  unfold b_need_told
  refine jst_skip (jev_not (jev_call (jea_cons (jev_var rfl) (jea_cons (jev_idx (jev_var rfl) jev_int rfl) (jea_cons (jev_idx (jev_var rfl) jev_int rfl) jea_nil))) (tup_t h1 (xs := toldL n t) (by rw [toldL_len]; exact Int.le_refl _) (by rw [toldL_len]; exact Int.le_refl _)))) rfl ?_
  exact jst_for (jes_0 (jea_cons (jev_var rfl) jea_nil)) (enum_told n t) e jst_nil
def OkNeedTells (nb : PySem.Str) (F : Orc) : Prop := ∀ n rods f t, NetOk n rods → IsDist n rods f → ToldIn n t → F nb false [netD n rods, toldT n t] none = some (tblL n f, none)
def b_need_tells : List Sx := [.expr (.fz []) (.call "need_net" [.var 0]), .expr (.fz []) (.call "need_told" [.var 0, .var 1]), .ret (.call "table_of" [.var 0])]
theorem need_tells_run (F : Orc) (h1 : OkNeedNet F) (h2 : OkNeedTold F) (h3 : OkTableOf F) {n rods f t} (N : NetOk n rods) (d : IsDist n rods f) (T : ToldIn n t) :
    (rss F b_need_tells [.fr (netD n rods), .fr (toldT n t)] none).bind resD = some (tblL n f, none) := by
  apply jrun_rt
  unfold b_need_tells
  refine jst_expr (jem_0 (jev_call (jea_cons (jev_var rfl) jea_nil) (h1 _ _ N))) ?_
  refine jst_expr (jem_0 (jev_call (jea_cons (jev_var rfl) (jea_cons (jev_var rfl) jea_nil)) (h2 _ _ _ T))) ?_
  exact jst_ret (jev_call (jea_cons (jev_var rfl) jea_nil) (h3 _ _ _ N d))
/-! ### no clash -/
def absI (x : Int) : Int := if x < 0 then -x else x
def NoClash (n : Nat) (f : Nat → Nat → Int) (t : Nat → Option Int) : Prop := ∀ i j, i < j → j < n → ∀ a b, t i = some a → t j = some b → absI (a - b) ≤ f i j
def OkClashOf (F : Orc) : Prop := ∀ (n : Nat) f t, n ≤ 8 → NoClash n f t → F "clash_of" false [tblL n f, toldT n t] none = some (.non, none)
def b_clash_told : List Sx := [.forS (.n 2) .range (.fz []) [.blt .len [.var 1]] [.forS (.n 3) .range (.fz []) [.bin .Add (.var 2) (.int 1), .blt .len [.var 1]] [.ifS (.and (.cmp .IsNot (.idx (.var 1) (.var 2)) (.non)) (.cmp .IsNot (.idx (.var 1) (.var 3)) (.non))) [.ifS (.cmp .Gt (.blt .abs [.bin .Sub (.idx (.var 1) (.var 2)) (.idx (.var 1) (.var 3))]) (.idx (.idx (.var 0) (.var 2)) (.var 3))) [.ret (.tup [.var 2, .var 3])] []] []]], .ret (.non)]
theorem clash_step (F : Orc) {n : Nat} {f t} (C : NoClash n f t) {i j : Nat} (hi : i < n) (hij : i < j) (hj : j < n) :
    JS F [.ifS (.and (.cmp .IsNot (.idx (.var 1) (.var 2)) (.non)) (.cmp .IsNot (.idx (.var 1) (.var 3)) (.non))) [.ifS (.cmp .Gt (.blt .abs [.bin .Sub (.idx (.var 1) (.var 2)) (.idx (.var 1) (.var 3))]) (.idx (.idx (.var 0) (.var 2)) (.var 3))) [.ret (.tup [.var 2, .var 3])] []] []]
      [.fr (tblL n f), .fr (toldT n t), .fr (.int (i : Int)), .fr (.int (j : Int))] none (.nx [.fr (tblL n f), .fr (toldT n t), .fr (.int (i : Int)), .fr (.int (j : Int))] none) := by
  refine jst_if (jev_and (jev_cmp (jev_idx (jev_var rfl) (jev_var rfl) (idx_told t hi)) jev_non (cmpD_isnt _)) (fun _ => jev_cmp (jev_idx (jev_var rfl) (jev_var rfl) (idx_told t hj)) jev_non (cmpD_isnt _))) (fun z => ?_) (fun _ => jst_nil)
  rw [Bool.and_eq_true] at z
  obtain ⟨a, ea⟩ := Option.isSome_iff_exists.mp z.1
  obtain ⟨b, eb⟩ := Option.isSome_iff_exists.mp z.2
  have h1 : idxD (toldT n t) (.int (i : Int)) = some (.int a) := by rw [idx_told t hi, ea]; rfl
  have h2 : idxD (toldT n t) (.int (j : Int)) = some (.int b) := by rw [idx_told t hj, eb]; rfl
  have h3 := C i j hij hj a b ea eb
  unfold absI at h3
  refine jst_skip (jev_cmp (jev_blt (jea_cons (jev_bin (jev_idx (jev_var rfl) (jev_var rfl) h1) (jev_idx (jev_var rfl) (jev_var rfl) h2) rfl) jea_nil) rfl) (jev_idx (jev_idx (jev_var rfl) (jev_var rfl) (idx_tblL f hi)) (jev_var rfl) (idx_row n _ hj)) (cmpD_gt _ _)) ?_ jst_nil
  rw [decide_eq_false_iff_not]
  omega
theorem clash_run (F : Orc) {n : Nat} (hn : n ≤ 8) {f t} (C : NoClash n f t) : (rss F b_clash_told [.fr (tblL n f), .fr (toldT n t), .un, .un] none).bind resD = some (.non, none) := by
  obtain ⟨s', w', e, y2, y3, rfl, rfl⟩ := jl_rng (F := F) (w := none) (tg := .n 2) (body := [.forS (.n 3) .range (.fz []) [.bin .Add (.var 2) (.int 1), .blt .len [.var 1]] [.ifS (.and (.cmp .IsNot (.idx (.var 1) (.var 2)) (.non)) (.cmp .IsNot (.idx (.var 1) (.var 3)) (.non))) [.ifS (.cmp .Gt (.blt .abs [.bin .Sub (.idx (.var 1) (.var 2)) (.idx (.var 1) (.var 3))]) (.idx (.idx (.var 0) (.var 2)) (.var 3))) [.ret (.tup [.var 2, .var 3])] []] []]]) n
    (fun k s w2 => ∃ y2 y3, s = [.fr (tblL n f), .fr (toldT n t), y2, y3] ∧ w2 = none) (s := [.fr (tblL n f), .fr (toldT n t), .un, .un]) ⟨_, _, rfl, rfl⟩
    (fun i s w2 hi ⟨y2, y3, hs, hw⟩ => by
      subst hs hw
      obtain ⟨s', w', e, z3, rfl, rfl⟩ := jl_map (F := F) (w := none) (tg := .n 3) (body := [.ifS (.and (.cmp .IsNot (.idx (.var 1) (.var 2)) (.non)) (.cmp .IsNot (.idx (.var 1) (.var 3)) (.non))) [.ifS (.cmp .Gt (.blt .abs [.bin .Sub (.idx (.var 1) (.var 2)) (.idx (.var 1) (.var 3))]) (.idx (.idx (.var 0) (.var 2)) (.var 3))) [.ret (.tup [.var 2, .var 3])] []] []]) (List.range' (i + 1) (n - (i + 1))) natD
        (fun k s w2 => ∃ y3, s = [.fr (tblL n f), .fr (toldT n t), .fr (.int (i : Int)), y3] ∧ w2 = none) (s := [.fr (tblL n f), .fr (toldT n t), .fr (.int (i : Int)), y3]) ⟨_, rfl, rfl⟩
        (fun k j s w2 hk ⟨y3, hs, hw⟩ => by
          subst hs hw
          obtain ⟨j1, j2⟩ := rngJ_mem (List.mem_of_getElem? hk)
          exact ⟨_, _, _, rfl, clash_step F C hi j1 j2, _, rfl, rfl⟩)
      exact ⟨_, _, _, rfl, jst_for (jes_0 (jea_cons (jev_bin (jev_var rfl) jev_int rfl) (jea_cons (jev_blt (jea_cons (jev_var rfl) jea_nil) (bltD_lenTold n t)) jea_nil))) (rngJ i n hi hn) e jst_nil, _, _, rfl, rfl⟩)
  apply jrun_rt
  unfold b_clash_told
  exact jst_for (jes_0 (jea_cons (jev_blt (jea_cons (jev_var rfl) jea_nil) (bltD_lenTold n t)) jea_nil)) (rngI n (by omega)) e (jst_ret jev_non)
/-! ### spans -/
theorem bltD_maxC {α : Type} (c : Int) (g : α → Int) (l : List α) : bltD .maxL [.lst ([D.int c] ++ l.map fun i => D.int (g i))] = some (.int (maxI (c :: l.map g))) := by
  show (intsD (D.int c :: l.map fun i => D.int (g i))).bind _ = _
  rw [intsD, intsD_map]
  rfl
theorem bltD_minC {α : Type} (c : Int) (g : α → Int) (l : List α) : bltD .minL [.lst ([D.int c] ++ l.map fun i => D.int (g i))] = some (.int (minI (c :: l.map g))) := by
  show (intsD (D.int c :: l.map fun i => D.int (g i))).bind _ = _
  rw [intsD, intsD_map]
  rfl
theorem max_cons {α : Type} (c : Int) (g : α → Int) (l : List α) : c ≤ maxI (c :: l.map g) ∧ (∀ a ∈ l, g a ≤ maxI (c :: l.map g)) ∧ (maxI (c :: l.map g) = c ∨ ∃ a ∈ l, maxI (c :: l.map g) = g a) := by
  obtain ⟨h1, h2⟩ := maxI_ge (l.map g) c
  have h1 : maxI (c :: l.map g) ∈ c :: l.map g := h1
  have h2 : ∀ y ∈ c :: l.map g, y ≤ maxI (c :: l.map g) := h2
  refine ⟨h2 c (by simp), fun a ha => h2 _ (by simp; exact .inr ⟨a, ha, rfl⟩), ?_⟩
  rcases List.mem_cons.mp h1 with z | z
  · exact .inl z
  · obtain ⟨a, ha, e⟩ := List.mem_map.mp z
    exact .inr ⟨a, ha, e.symm⟩
theorem min_cons {α : Type} (c : Int) (g : α → Int) (l : List α) : minI (c :: l.map g) ≤ c ∧ (∀ a ∈ l, minI (c :: l.map g) ≤ g a) ∧ (minI (c :: l.map g) = c ∨ ∃ a ∈ l, minI (c :: l.map g) = g a) := by
  obtain ⟨h1, h2⟩ := minI_le (l.map g) c
  have h1 : minI (c :: l.map g) ∈ c :: l.map g := h1
  have h2 : ∀ y ∈ c :: l.map g, minI (c :: l.map g) ≤ y := h2
  refine ⟨h2 c (by simp), fun a ha => h2 _ (by simp; exact .inr ⟨a, ha, rfl⟩), ?_⟩
  rcases List.mem_cons.mp h1 with z | z
  · exact .inl z
  · obtain ⟨a, ha, e⟩ := List.mem_map.mp z
    exact .inr ⟨a, ha, e.symm⟩
def knL (n : Nat) (t : Nat → Option Int) : List Nat := (List.range n).filter fun i => (t i).isSome
def loF (n : Nat) (f : Nat → Nat → Int) (t : Nat → Option Int) (p : Nat) : Int := maxI (0 :: (knL n t).map fun i => tv t i - f i p)
def hiF (n : Nat) (f : Nat → Nat → Int) (t : Nat → Option Int) (m : Int) (p : Nat) : Int := minI (m :: (knL n t).map fun i => tv t i + f i p)
def spD (n : Nat) (f : Nat → Nat → Int) (t : Nat → Option Int) (m : Int) (p : Nat) : D := .tup [.int (loF n f t p), .int (hiF n f t m p)]
def OkSpans (F : Orc) : Prop := ∀ (n : Nat) f t m, n ≤ 8 → F "spans" false [tblL n f, toldT n t, .int m] none = some (.lst ((List.range n).map (spD n f t m)), none)
theorem knL_mem {n : Nat} {t : Nat → Option Int} {i : Nat} : i ∈ knL n t ↔ i < n ∧ (t i).isSome = true := by
  unfold knL
  rw [List.mem_filter, List.mem_range]
theorem knL_len (n : Nat) (t : Nat → Option Int) : (knL n t).length ≤ n := by
  have := List.length_filter_le (fun i => (t i).isSome) (List.range n)
  rwa [List.length_range] at this
def b_spans : List Sx := [.new1 3 (.fz []) (.lst []), .forS (.n 4) .range (.fz []) [.blt .len [.var 1]] [.set 5 (.fz []) (.comp [7, 8] (.t [.n 7, .n 8]) .enum [.var 1] (some (.cmp .IsNot (.var 8) (.non))) (.tup [.var 8, .idx (.idx (.var 0) (.var 7)) (.var 4)])), .set 6 (.fz []) (.blt .maxL [.bin .Add (.lst [.int 0]) (.comp [8, 9] (.t [.n 8, .n 9]) .plain [.var 5] none (.bin .Sub (.var 8) (.var 9)))]), .app 3 (.fz []) (.tup [.var 6, .blt .minL [.bin .Add (.lst [.var 2]) (.comp [8, 9] (.t [.n 8, .n 9]) .plain [.var 5] none (.bin .Add (.var 8) (.var 9)))]])], .ret (.var 3)]
def bSp : List Sx := [.set 5 (.fz []) (.comp [7, 8] (.t [.n 7, .n 8]) .enum [.var 1] (some (.cmp .IsNot (.var 8) (.non))) (.tup [.var 8, .idx (.idx (.var 0) (.var 7)) (.var 4)])), .set 6 (.fz []) (.blt .maxL [.bin .Add (.lst [.int 0]) (.comp [8, 9] (.t [.n 8, .n 9]) .plain [.var 5] none (.bin .Sub (.var 8) (.var 9)))]), .app 3 (.fz []) (.tup [.var 6, .blt .minL [.bin .Add (.lst [.var 2]) (.comp [8, 9] (.t [.n 8, .n 9]) .plain [.var 5] none (.bin .Add (.var 8) (.var 9)))]])]
theorem spans_eq : b_spans = [.new1 3 (.fz []) (.lst []), .forS (.n 4) .range (.fz []) [.blt .len [.var 1]] bSp, .ret (.var 3)] := rfl
theorem sp_step (F : Orc) {n : Nat} (hn : n ≤ 8) {f t} {m : Int} {p : Nat} (hp : p < n) (l : List D) (hl : l.length < 50000) (x5 x6 x7 x8 x9 : Sl) :
    ∃ y5 y6, JS F bSp [.fr (tblL n f), .fr (toldT n t), .fr (.int m), .l l, .fr (.int (p : Int)), x5, x6, x7, x8, x9] none (.nx [.fr (tblL n f), .fr (toldT n t), .fr (.int m), .l (l ++ [spD n f t m p]), .fr (.int (p : Int)), y5, y6, x7, x8, x9] none) := by
  have kl := knL_len n t
  refine ⟨.fr (.lst ((knL n t).map fun i => D.tup [.int (tv t i), .int (f i p)])), .fr (.int (loF n f t p)), ?_⟩
  unfold bSp
  refine jst_set (w1 := none) (d := .lst ((knL n t).map fun i => D.tup [.int (tv t i), .int (f i p)])) (jem_0 ?_) (by first | (simp only [List.set_cons_zero, List.set_cons_succ, setPs]; exact rfl) | exact rfl) ?_
  · refine jev_comp (List.range n) (fun (i : Nat) => D.tup [.int (i : Int), optD (t i)]) (p := fun i => (t i).isSome) (g := fun i => D.tup [.int (tv t i), .int (f i p)]) (jea_cons (jev_var rfl) jea_nil) (enum_told n t) (fun i hi => ?_) (by rw [List.length_range]; omega)
    have hi := List.mem_range.mp hi
    refine jt rfl (jec_some (jev_cmp (jev_var rfl) jev_non (cmpD_isnt _))) rfl (fun z => JE.to (jev_tup (jea_cons (jev_var rfl) (jea_cons (jev_idx (jev_idx (jev_var rfl) (jev_var rfl) (idx_tblL f hi)) (jev_var rfl) (idx_row n _ hp)) jea_nil)) (by simp)) (by rw [optD_tv z])) rfl
  refine jst_set (w1 := none) (d := .int (loF n f t p)) (jem_0 (jev_blt (jea_cons (jev_bin (jev_lst (jea_cons jev_int jea_nil) (by simp)) (jev_compPA (l := knL n t) (enc := fun i => D.tup [.int (tv t i), .int (f i p)]) (g := fun i => .int (tv t i - f i p)) (jev_var rfl) rfl (by omega) fun i hi => ju rfl (jev_bin (jev_var rfl) (jev_var rfl) rfl) rfl) (opD_addL ?_)) jea_nil) (bltD_maxC 0 _ _))) (by first | (simp only [List.set_cons_zero, List.set_cons_succ, setPs]; exact rfl) | exact rfl) ?_
  · rw [List.length_map]; simp; omega
  refine jst_app (w1 := none) (ds := l) (d := spD n f t m p) (jem_0 (jev_tup (jea_cons (jev_var rfl) (jea_cons (jev_blt (jea_cons (jev_bin (jev_lst (jea_cons (jev_var rfl) jea_nil) (by simp)) (jev_compPA (l := knL n t) (enc := fun i => D.tup [.int (tv t i), .int (f i p)]) (g := fun i => .int (tv t i + f i p)) (jev_var rfl) rfl (by omega) fun i hi => ju rfl (jev_bin (jev_var rfl) (jev_var rfl) rfl) rfl) (opD_addL ?_)) jea_nil) (bltD_minC m _ _)) jea_nil)) (by simp))) rfl (by omega) (by first | (simp only [List.set_cons_zero, List.set_cons_succ, setPs]; exact rfl) | exact rfl) jst_nil
  rw [List.length_map]; simp; omega
theorem spans_run (F : Orc) {n : Nat} (hn : n ≤ 8) {f t} {m : Int} : (rss F b_spans [.fr (tblL n f), .fr (toldT n t), .fr (.int m), .un, .un, .un, .un, .un, .un, .un] none).bind resD = some (.lst ((List.range n).map (spD n f t m)), none) := by
  obtain ⟨s', w', e, y4, y5, y6, rfl, rfl⟩ := jl_rng (F := F) (w := none) (tg := .n 4) (body := bSp) n
    (fun k s w2 => ∃ y4 y5 y6, s = [.fr (tblL n f), .fr (toldT n t), .fr (.int m), .l ((List.range k).map (spD n f t m)), y4, y5, y6, .un, .un, .un] ∧ w2 = none)
    (s := [.fr (tblL n f), .fr (toldT n t), .fr (.int m), .l [], .un, .un, .un, .un, .un, .un]) ⟨_, _, _, rfl, rfl⟩
    (fun p s w2 hp ⟨y4, y5, y6, hs, hw⟩ => by
      subst hs hw
      obtain ⟨z5, z6, e⟩ := sp_step F hn (f := f) (t := t) (m := m) hp ((List.range p).map (spD n f t m)) (by rw [List.length_map, List.length_range]; omega) y5 y6 .un .un .un
      rw [List.range_succ, List.map_append]
      exact ⟨_, _, _, rfl, e, _, _, _, rfl, rfl⟩)
  apply jrun_rt
  rw [spans_eq]
  refine jst_new1 (jem_0 (jev_lst jea_nil (by simp))) (by first | (simp only [List.set_cons_zero, List.set_cons_succ, setPs]; exact rfl) | exact rfl) ?_
  refine jst_for (jes_0 (jea_cons (jev_blt (jea_cons (jev_var rfl) jea_nil) (bltD_lenTold n t)) jea_nil)) (rngI n (by omega)) e ?_
  exact jst_ret (jev_var rfl)
def OkClash (F : Orc) : Prop := ∀ n rods d t, NetOk n rods → IsDist n rods d → ToldIn n t → NoClash n d t → F "clash" false [netD n rods, toldT n t] none = some (.non, none)
def OkLowest (F : Orc) : Prop := ∀ n rods d t, NetOk n rods → IsDist n rods d → ToldIn n t → NoClash n d t → F "lowest" false [netD n rods, toldT n t] none = some (rowT n (loF n d t), none)
def OkHighest (F : Orc) : Prop := ∀ n rods d t m, NetOk n rods → IsDist n rods d → ToldIn n t → NoClash n d t → 0 ≤ m → m ≤ 99 → (∀ i, i < n → ∀ v, t i = some v → v ≤ m) → F "highest" false [netD n rods, toldT n t, .int m] none = some (rowT n (hiF n d t m), none)
def sureT (n : Nat) (f : Nat → Nat → Int) (t : Nat → Option Int) (m : Int) : D := .tup ((List.range n).map fun i => if decide (loF n f t i = hiF n f t m i) = true then .int (loF n f t i) else .non)
def OkSure (F : Orc) : Prop := ∀ n rods d t m, NetOk n rods → IsDist n rods d → ToldIn n t → NoClash n d t → 0 ≤ m → m ≤ 99 → (∀ i, i < n → ∀ v, t i = some v → v ≤ m) → F "sure" false [netD n rods, toldT n t, .int m] none = some (sureT n d t m, none)
section
variable (F : Orc) {nb : PySem.Str} {n : Nat} {rods : List Rod} {d : Nat → Nat → Int} {t : Nat → Option Int}
def b_clash_net (nb : PySem.Str) : List Sx := [.ret (.call "clash_of" [.call nb [.var 0, .var 1], .var 1])]
theorem clash_net_run (h1 : OkNeedTells nb F) (h2 : OkClashOf F) (N : NetOk n rods) (Di : IsDist n rods d) (T : ToldIn n t) (C : NoClash n d t) : (rss F (b_clash_net nb) [.fr (netD n rods), .fr (toldT n t)] none).bind resD = some (.non, none) := by
  apply jrun_rt
  unfold b_clash_net
  exact jst_ret (jev_call (jea_cons (jev_call (jea_cons (jev_var rfl) (jea_cons (jev_var rfl) jea_nil)) (h1 _ _ _ _ N Di T)) (jea_cons (jev_var rfl) jea_nil)) (h2 _ _ _ N.hi C))
def b_lowest (need_both : PySem.Str) : List Sx := [.set 2 (.fz []) (.call need_both [.var 0, .var 1]), .ifS (.cmp .IsNot (.call "clash_of" [.var 2, .var 1]) (.non)) [.never] [], .ret (.blt .tuple [.comp [3] (.n 3) .plain [.call "spans" [.var 2, .var 1, .glo "MOST_HEIGHT" 99]] none (.idx (.var 3) (.int 0))])]
theorem lowest_run (h1 : OkNeedTells nb F) (h2 : OkClashOf F) (h3 : OkSpans F) (N : NetOk n rods) (Di : IsDist n rods d) (T : ToldIn n t) (C : NoClash n d t) : (rss F (b_lowest nb) [.fr (netD n rods), .fr (toldT n t), .un, .un] none).bind resD = some (rowT n (loF n d t), none) := by
  have n8 := N.hi
  apply jrun_rt
  unfold b_lowest
  refine jst_set (w1 := none) (jem_0 (jev_call (jea_cons (jev_var rfl) (jea_cons (jev_var rfl) jea_nil)) (h1 _ _ _ _ N Di T))) (by first | (simp only [List.set_cons_zero, List.set_cons_succ, setPs]; exact rfl) | exact rfl) ?_
  refine jst_skip (jev_cmp (jev_call (jea_cons (jev_var rfl) (jea_cons (jev_var rfl) jea_nil)) (h2 _ _ _ n8 C)) jev_non (t := false) rfl) rfl ?_
  exact jst_ret (jev_blt (ds := [.lst ((List.range n).map fun p => .int (loF n d t p))]) (jea_cons (jev_compPA (l := List.range n) (enc := spD n d t 99) (g := fun p => .int (loF n d t p)) (jev_call (jea_cons (jev_var rfl) (jea_cons (jev_var rfl) (jea_cons jev_glo jea_nil))) (h3 _ _ _ _ n8)) rfl (by rw [List.length_range]; omega) fun p hp => ju rfl (jev_idx (jev_var rfl) jev_int rfl) rfl) jea_nil) rfl)
def b_highest (need_both : PySem.Str) : List Sx := [.set 3 (.fz []) (.call need_both [.var 0, .var 1]), .expr (.fz []) (.call "need_number" [.var 2, .int 0, .glo "MOST_HEIGHT" 99]), .ifS (.or (.cmp .IsNot (.call "clash_of" [.var 3, .var 1]) (.non)) (.blt .any [.comp [5] (.n 5) .plain [.var 1] none (.and (.cmp .IsNot (.var 5) (.non)) (.cmp .Gt (.var 5) (.var 2)))])) [.never] [], .ret (.blt .tuple [.comp [4] (.n 4) .plain [.call "spans" [.var 3, .var 1, .var 2]] none (.idx (.var 4) (.int 1))])]
theorem highest_run (h1 : OkNeedTells nb F) (h2 : OkClashOf F) (h3 : OkSpans F) (h4 : OkNeedNumber F) (N : NetOk n rods) (Di : IsDist n rods d) (T : ToldIn n t) (C : NoClash n d t) {m : Int} (m0 : 0 ≤ m) (m1 : m ≤ 99) (M : ∀ i, i < n → ∀ v, t i = some v → v ≤ m) :
    (rss F (b_highest nb) [.fr (netD n rods), .fr (toldT n t), .fr (.int m), .un, .un, .un] none).bind resD = some (rowT n (hiF n d t m), none) := by
  have n8 := N.hi
  apply jrun_rt
  unfold b_highest
  refine jst_set (w1 := none) (jem_0 (jev_call (jea_cons (jev_var rfl) (jea_cons (jev_var rfl) jea_nil)) (h1 _ _ _ _ N Di T))) (by first | (simp only [List.set_cons_zero, List.set_cons_succ, setPs]; exact rfl) | exact rfl) ?_
  refine jst_expr (jem_0 (jev_call (jea_cons (jev_var rfl) (jea_cons jev_int (jea_cons jev_glo jea_nil))) (h4 _ _ _ m0 m1))) ?_
  refine jst_skip (w1 := none) (t := false || false) (jev_or (jev_cmp (jev_call (jea_cons (jev_var rfl) (jea_cons (jev_var rfl) jea_nil)) (h2 _ _ _ n8 C)) jev_non (t := false) rfl) (fun _ => ?_)) rfl ?_
  · have e : JE F (.comp [5] (.n 5) .plain [.var 1] none (.and (.cmp .IsNot (.var 5) (.non)) (.cmp .Gt (.var 5) (.var 2)))) (vwS (fzA [.fr (netD n rods), .fr (toldT n t), .fr (.int m), .fr (tblL n d), .un, .un])) none (.lst ((List.range n).map fun _ => .bl false)) none := by
      refine jev_compPA (l := List.range n) (enc := fun i => optD (t i)) (g := fun _ => .bl false) (jev_var rfl) rfl (by rw [List.length_range]; omega) fun i hi => ?_
      have hi := List.mem_range.mp hi
      refine ju rfl (JE.to (d := .bl false) ?_ rfl) rfl
      cases e : t i with
      | none => exact jev_and (t := false) (u := false) (jev_cmp (jev_var (d := .non) rfl) jev_non rfl) (fun z => by cases z)
      | some v =>
        have := M i hi v e
        have hg : decide (m < v) = false := by rw [decide_eq_false_iff_not]; omega
        exact jev_and (t := true) (u := false) (jev_cmp (jev_var (d := .int v) rfl) jev_non rfl) (fun _ => jev_cmp (jev_var (d := .int v) rfl) (jev_var rfl) (by rw [cmpD_gt, hg]))
    refine jev_blt (jea_cons e jea_nil) ?_
    rw [bltD_any (fun _ => false)]
    simp
  exact jst_ret (jev_blt (ds := [.lst ((List.range n).map fun p => .int (hiF n d t m p))]) (jea_cons (jev_compPA (l := List.range n) (enc := spD n d t m) (g := fun p => .int (hiF n d t m p)) (jev_call (jea_cons (jev_var rfl) (jea_cons (jev_var rfl) (jea_cons (jev_var rfl) jea_nil))) (h3 _ _ _ _ n8)) rfl (by rw [List.length_range]; omega) fun p hp => ju rfl (jev_idx (jev_var rfl) jev_int rfl) rfl) jea_nil) rfl)
theorem zip_rows (n : Nat) (g h : Nat → Int) : itemsD .zip [rowT n g, rowT n h] = some ((List.range n).map fun i => D.tup [.int (g i), .int (h i)]) := by
  show some (List.zipWith (fun a b => D.tup [a, b]) (rowD n g) (rowD n h)) = _
  unfold rowD
  rw [List.zipWith_map, List.zipWith_self]
def b_sure : List Sx := [.set 3 (.fz []) (.call "highest" [.var 0, .var 1, .var 2]), .set 4 (.fz []) (.call "lowest" [.var 0, .var 1]), .ret (.blt .tuple [.comp [5, 6] (.t [.n 5, .n 6]) .zip [.var 4, .var 3] none (.ite (.cmp .Eq (.var 5) (.var 6)) (.var 5) (.non))])]
theorem sure_run (h1 : OkHighest F) (h2 : OkLowest F) (N : NetOk n rods) (Di : IsDist n rods d) (T : ToldIn n t) (C : NoClash n d t) {m : Int} (m0 : 0 ≤ m) (m1 : m ≤ 99) (M : ∀ i, i < n → ∀ v, t i = some v → v ≤ m) :
    (rss F b_sure [.fr (netD n rods), .fr (toldT n t), .fr (.int m), .un, .un, .un, .un] none).bind resD = some (sureT n d t m, none) := by
  have n8 := N.hi
  apply jrun_rt
  unfold b_sure
  refine jst_set (w1 := none) (jem_0 (jev_call (jea_cons (jev_var rfl) (jea_cons (jev_var rfl) (jea_cons (jev_var rfl) jea_nil))) (h1 _ _ _ _ _ N Di T C m0 m1 M))) (by first | (simp only [List.set_cons_zero, List.set_cons_succ, setPs]; exact rfl) | exact rfl) ?_
  refine jst_set (w1 := none) (jem_0 (jev_call (jea_cons (jev_var rfl) (jea_cons (jev_var rfl) jea_nil)) (h2 _ _ _ _ N Di T C))) (by first | (simp only [List.set_cons_zero, List.set_cons_succ, setPs]; exact rfl) | exact rfl) ?_
  exact jst_ret (jev_blt (jea_cons (jev_compA (List.range n) (fun i => D.tup [.int (loF n d t i), .int (hiF n d t m i)]) (g := fun i => if decide (loF n d t i = hiF n d t m i) = true then .int (loF n d t i) else .non) (jea_cons (jev_var rfl) (jea_cons (jev_var rfl) jea_nil)) (zip_rows n _ _) (fun i hi => ju rfl (jev_ite (jev_cmp (jev_var rfl) (jev_var rfl) (cmpD_eqI _ _)) (fun _ => jev_var rfl) (fun _ => jev_non)) rfl) (by rw [List.length_range]; omega)) jea_nil) rfl)
end
end Lt

set_option Elab.async false
set_option linter.all false
set_option maxRecDepth 100000
set_option maxHeartbeats 400000
/-! LtRl: plain Lean: drawn slope rows. -/
namespace Lt
open PySem PySem.Spec PyProof.Rows L2
def Slope (n : Nat) (d : Nat → Nat → Int) (h : Nat → Int) : Prop := ∀ i j, i < n → j < n → h i - h j ≤ d i j
def OkSlope (F : Orc) : Prop := ∀ (w : W) n rods d (most : Nat), NetOk n rods → IsDist n rods d → most ≤ 99 → 0 ≤ w.a → ∃ (h : Nat → Int) (w' : W), RowIn n most h ∧ Slope n d h ∧ 0 ≤ w'.a ∧ F "_law_slope" true [netD n rods, .int (most : Int)] (some w) = some (rowT n h, some w')
def b_law_slope : List Sx := [.par [⟨4, .fr, (.fz []), (.call "_law_far" [.var 1])⟩, ⟨5, .l, (.fz []), (.lst [])⟩], .forS (.n 3) .range (.fz []) [.idx (.var 1) (.int 0)] [.set 6 .pk (.blt .maxL [.bin .Add (.lst [.int 0]) (.comp [8] (.n 8) .range [.var 3] none (.bin .Sub (.idx (.var 5) (.var 8)) (.idx (.idx (.var 4) (.var 8)) (.var 3))))]), .set 7 .pk (.blt .minL [.bin .Add (.lst [.var 2]) (.comp [8] (.n 8) .range [.var 3] none (.bin .Add (.idx (.var 5) (.var 8)) (.idx (.idx (.var 4) (.var 8)) (.var 3))))]), .app 5 (.fz []) (.bin .Add (.var 6) (.callR "_law_taken" [.bin .Add (.bin .Sub (.var 7) (.var 6)) (.int 1)]))], .ret (.blt .tuple [.var 5])]
def bSl : List Sx := [.set 6 .pk (.blt .maxL [.bin .Add (.lst [.int 0]) (.comp [8] (.n 8) .range [.var 3] none (.bin .Sub (.idx (.var 5) (.var 8)) (.idx (.idx (.var 4) (.var 8)) (.var 3))))]), .set 7 .pk (.blt .minL [.bin .Add (.lst [.var 2]) (.comp [8] (.n 8) .range [.var 3] none (.bin .Add (.idx (.var 5) (.var 8)) (.idx (.idx (.var 4) (.var 8)) (.var 3))))]), .app 5 (.fz []) (.bin .Add (.var 6) (.callR "_law_taken" [.bin .Add (.bin .Sub (.var 7) (.var 6)) (.int 1)]))]
theorem law_slope_eq : b_law_slope = [.par [⟨4, .fr, (.fz []), (.call "_law_far" [.var 1])⟩, ⟨5, .l, (.fz []), (.lst [])⟩], .forS (.n 3) .range (.fz []) [.idx (.var 1) (.int 0)] bSl, .ret (.blt .tuple [.var 5])] := rfl
theorem rowD_snoc (p : Nat) (h : Nat → Int) (v : Int) : rowD p h ++ [.int v] = rowD (p + 1) (updF h p v) := by
  unfold rowD
  rw [List.range_succ, List.map_append]
  congr 1
  · refine List.map_congr_left fun i hi => ?_
    have := List.mem_range.mp hi
    unfold updF
    rw [if_neg (by omega)]
  · show [D.int v] = [D.int (updF h p v p)]
    unfold updF
    rw [if_pos rfl]
theorem sl_step (F : Orc) (hD : OkDraw F) {n : Nat} {rods : List Rod} {d : Nat → Nat → Int} (N : NetOk n rods) (Di : IsDist n rods d) {most p : Nat} (hm : most ≤ 99) (hp : p < n) (h : Nat → Int) (R : RowIn p most h) (S : Slope p d h) (w : W) (ha : 0 ≤ w.a) (x0 x1 x6 x7 x8 : Sl) :
    ∃ h' w' y6 y7, JS F bSl [x0, x1, .fr (.int (most : Int)), .fr (.int (p : Int)), .fr (tblL n d), .l (rowD p h), x6, x7, x8] (some w) (.nx [x0, x1, .fr (.int (most : Int)), .fr (.int (p : Int)), .fr (tblL n d), .l (rowD (p + 1) h'), y6, y7, x8] (some w')) ∧ RowIn (p + 1) most h' ∧ Slope (p + 1) d h' ∧ 0 ≤ w'.a := by
  have n8 := N.hi
  obtain ⟨a1, a2, a3⟩ := max_cons 0 (fun i => h i - d i p) (List.range p)
  obtain ⟨b1, b2, b3⟩ := min_cons (most : Int) (fun i => h i + d i p) (List.range p)
  have key : maxI (0 :: (List.range p).map fun i => h i - d i p) ≤ minI ((most : Int) :: (List.range p).map fun i => h i + d i p) := by
    rcases a3 with z | ⟨i, hi, z⟩
    · rcases b3 with y | ⟨j, hj, y⟩
      · omega
      · have hj := List.mem_range.mp hj
        have := R j hj
        have := Di.p j p (by omega) hp
        omega
    · have hi := List.mem_range.mp hi
      have r1 := R i hi
      have p1 := Di.p i p (by omega) hp
      rcases b3 with y | ⟨j, hj, y⟩
      · omega
      · have hj := List.mem_range.mp hj
        have s1 := S i j hi hj
        have t1 := Di.tr N.p1 (i := i) (j := p) (k := j) (by omega) hp (by omega)
        have y1 := Di.sy N.p1 (i := p) (j := j) hp (by omega)
        omega
  generalize hlo : maxI (0 :: (List.range p).map fun i => h i - d i p) = lo at a1 a2 a3 key
  generalize hhi : minI ((most : Int) :: (List.range p).map fun i => h i + d i p) = hi at b1 b2 b3 key
  obtain ⟨t, w', t1, wa, e⟩ := hD w (hi - lo + 1) (by omega) (by omega) ha
  refine ⟨updF h p (lo + (t : Int)), w', .fr (.int lo), .fr (.int hi), ?_, fun i hi' => ?_, fun i j hi' hj' => ?_, wa⟩
  · rw [← rowD_snoc]
    have pn : ∀ k, k < p → k < n := fun k hk => by omega
    unfold bSl
    have e6 : JE F (.blt .maxL [.bin .Add (.lst [.int 0]) (.comp [8] (.n 8) .range [.var 3] none (.bin .Sub (.idx (.var 5) (.var 8)) (.idx (.idx (.var 4) (.var 8)) (.var 3))))]) (vwS (fzA [x0, x1, .fr (.int (most : Int)), .fr (.int (p : Int)), .fr (tblL n d), .l (rowD p h), x6, x7, x8])) (some w) (.int lo) (some w) := by
      rw [← hlo]
      refine jev_blt (jea_cons (jev_bin (jev_lst (jea_cons jev_int jea_nil) (by simp)) (jev_compRA (n := p) (g := fun i => .int (h i - d i p)) (jea_cons (jev_var rfl) jea_nil) (by omega) fun i hi => ju rfl (jev_bin (jev_idx (jev_var rfl) (jev_var rfl) (idx_row p h hi)) (jev_idx (jev_idx (jev_var rfl) (jev_var rfl) (idx_tblL d (pn i hi))) (jev_var rfl) (idx_row n _ hp)) rfl) rfl) (opD_addL ?_)) jea_nil) (bltD_maxC 0 _ _)
      rw [List.length_map, List.length_range]; simp; omega
    refine jst_set (w1 := some w) (jem_pk e6 rfl) (by first | (simp only [List.set_cons_zero, List.set_cons_succ, setPs]; exact rfl) | exact rfl) ?_
    have e7 : JE F (.blt .minL [.bin .Add (.lst [.var 2]) (.comp [8] (.n 8) .range [.var 3] none (.bin .Add (.idx (.var 5) (.var 8)) (.idx (.idx (.var 4) (.var 8)) (.var 3))))]) (vwS (fzA [x0, x1, .fr (.int (most : Int)), .fr (.int (p : Int)), .fr (tblL n d), .l (rowD p h), .fr (.int lo), x7, x8])) (some w) (.int hi) (some w) := by
      rw [← hhi]
      refine jev_blt (jea_cons (jev_bin (jev_lst (jea_cons (jev_var rfl) jea_nil) (by simp)) (jev_compRA (n := p) (g := fun i => .int (h i + d i p)) (jea_cons (jev_var rfl) jea_nil) (by omega) fun i hi => ju rfl (jev_bin (jev_idx (jev_var rfl) (jev_var rfl) (idx_row p h hi)) (jev_idx (jev_idx (jev_var rfl) (jev_var rfl) (idx_tblL d (pn i hi))) (jev_var rfl) (idx_row n _ hp)) rfl) rfl) (opD_addL ?_)) jea_nil) (bltD_minC _ _ _)
      rw [List.length_map, List.length_range]; simp; omega
    refine jst_set (w1 := some w) (jem_pk e7 rfl) (by first | (simp only [List.set_cons_zero, List.set_cons_succ, setPs]; exact rfl) | exact rfl) ?_
    exact jst_app (w1 := some w') (ds := rowD p h) (d := .int (lo + (t : Int))) (jem_0 (jev_bin (jev_var rfl) (jev_callR (jea_cons (jev_bin (jev_bin (jev_var rfl) (jev_var rfl) rfl) jev_int rfl) jea_nil) (by simp) e) rfl)) rfl (by rw [rowD_len]; omega) (by first | (simp only [List.set_cons_zero, List.set_cons_succ, setPs]; exact rfl) | exact rfl) jst_nil
  · unfold updF
    split
    · omega
    · exact R i (by omega)
  · unfold updF
    by_cases ci : i = p
    · by_cases cj : j = p
      · subst ci cj
        have := Di.p j j hp hp
        rw [if_pos rfl]; omega
      · rw [if_pos ci, if_neg cj]
        subst ci
        have := b2 j (List.mem_range.mpr (by omega))
        have y1 := Di.sy N.p1 (i := i) (j := j) hp (by omega)
        omega
    · by_cases cj : j = p
      · rw [if_neg ci, if_pos cj]
        subst cj
        have := a2 i (List.mem_range.mpr (by omega))
        omega
      · rw [if_neg ci, if_neg cj]
        exact S i j (by omega) (by omega)
theorem law_slope_run (F : Orc) (hD : OkDraw F) (hF : OkFar F) (w : W) {n : Nat} {rods : List Rod} {d : Nat → Nat → Int} (N : NetOk n rods) (Di : IsDist n rods d) {most : Nat} (hm : most ≤ 99) (ha : 0 ≤ w.a) :
    ∃ (h : Nat → Int) (w' : W), RowIn n most h ∧ Slope n d h ∧ 0 ≤ w'.a ∧ (rss F b_law_slope [.un, .fr (netD n rods), .fr (.int (most : Int)), .un, .un, .un, .un, .un, .un] (some w)).bind resD = some (rowT n h, some w') := by
  have n8 := N.hi
  obtain ⟨s', w', e, h, x3, x6, x7, z, rfl, rfl, R, S, a⟩ := jl_rng (F := F) (tg := .n 3) (body := bSl) n
    (fun p s w2 => ∃ h x3 x6 x7 z, s = [.un, .fr (netD n rods), .fr (.int (most : Int)), x3, .fr (tblL n d), .l (rowD p h), x6, x7, .un] ∧ w2 = some z ∧ RowIn p most h ∧ Slope p d h ∧ 0 ≤ z.a)
    (s := [.un, .fr (netD n rods), .fr (.int (most : Int)), .un, .fr (tblL n d), .l (rowD 0 fun _ => 0), .un, .un, .un]) (w := some w)
    ⟨_, _, _, _, _, rfl, rfl, fun i hi => by omega, fun i j hi => by omega, ha⟩
    (fun p s w2 hp ⟨h, x3, x6, x7, z, hs, hw, R, S, a⟩ => by
      subst hs hw
      obtain ⟨h', w', y6, y7, e, R', S', a'⟩ := sl_step F hD N Di hm hp h R S z a .un (.fr (netD n rods)) x6 x7 .un
      exact ⟨_, _, _, rfl, e, h', _, _, _, _, rfl, rfl, R', S', a'⟩)
  refine ⟨h, z, R, S, a, ?_⟩
  apply jrun_rt
  rw [law_slope_eq]
  refine jst_par (w1 := some w) (sls := [.fr (tblL n d), .l []]) (jeps_cons (jep_fr (jem_0 (jev_call (jea_cons (jev_var rfl) jea_nil) (hF _ _ _ N Di)))) (jeps_cons (jep_l (jem_0 (jev_lst jea_nil (by simp)))) jeps_nil)) (by first | (simp only [List.set_cons_zero, List.set_cons_succ, setPs]; exact rfl) | exact rfl) ?_
  refine jst_for (jes_0 (jea_cons (jev_idx (jev_var rfl) jev_int rfl) jea_nil)) (rngI n (by omega)) e ?_
  exact jst_ret (jev_blt (jea_cons (jev_var rfl) jea_nil) rfl)
/-! ### slope rows have no gap -/
theorem slope_gap_none {n : Nat} {d : Nat → Nat → Int} {h : Nat → Int} (S : ∀ i j, i < j → j < n → (if h i - h j < 0 then -(h i - h j) else h i - h j) ≤ d i j) : gapD n d h = .non := by
  have e : gapsL n d h = [] := by
    unfold gapsL
    rw [List.flatMap_eq_nil_iff]
    intro i hi
    unfold gapsAt
    rw [List.map_eq_nil_iff, List.filter_eq_nil_iff]
    intro j hj
    obtain ⟨j1, j2⟩ := rngJ_mem hj
    have := S i j j1 j2
    unfold badB
    rw [decide_eq_true_eq]
    omega
  rw [gapD_is, e]
  rfl
end Lt

set_option Elab.async false
set_option linter.all false
set_option maxRecDepth 100000
set_option maxHeartbeats 400000
/-! LtRq: plain Lean: rules of further operators; equality of plain data; roofs and floors; higher. -/
namespace Lt
open PySem PySem.Spec PyProof.Rows L2
section
variable {F : Orc} {ρ : Env} {w w1 w2 : Option W} {s s1 s2 : Sls} {r : Res} {rest : List Sx}
theorem jev_x1 {o : X1} {a : E} {x z : D} (h1 : JE F a ρ w x w1) (h2 : x1D o x = some z) : JE F (.x1 o a) ρ w z w1 := ⟨by rw [ev, h1.h, Option.bind_some]; show (x1D o x).map _ = _; rw [h2]; rfl⟩
theorem jev_x2 {o : X2} {a b : E} {x y z : D} (h1 : JE F a ρ w x w1) (h2 : JE F b ρ w1 y w2) (h3 : x2D o x y = some z) : JE F (.x2 o a b) ρ w z w2 := ⟨by rw [ev, h1.h, Option.bind_some]; show (ev F b ρ w1).bind _ = _; rw [h2.h, Option.bind_some]; show (x2D o x y).map _ = _; rw [h3]; rfl⟩
theorem jst_ext {i : Nat} {md : Md} {m : E} {es ds : List D} (h : JM F m md s w (.lst es) s1 w1) (h0 : s1[i]? = some (.l ds)) (hl : ds.length + es.length < 60000) (h2 : s1.set i (.l (ds ++ es)) = s2) (hr : JS F rest s2 w1 r) : JS F (.ext i md m :: rest) s w r := by
  refine jst_cons (s1 := s2) (w1 := w1) ?_ hr
  rw [rs, h.h, Option.bind_some]
  show (asLs (D.lst es)).bind _ = _
  simp only [asLs, Option.bind_some]
  rw [h0]
  simp only [Option.bind_some, Sl.asL]
  rw [if_pos (show okLen (ds.length + es.length) = true from decide_eq_true (by rw [sizeLine_eq]; omega)), h2]
theorem jst_parS {ts : List Tx} {es : List E} {ds : List D} (h : JN F es .pk s w ds s1 w1) (h2 : storesF F ts ds s1 w1 = some (s2, w2)) (hr : JS F rest s2 w2 r) : JS F (.parS ts es :: rest) s w r := by
  refine jst_cons (s1 := s2) (w1 := w2) ?_ hr
  rw [rs, h.h, Option.bind_some]
  show (storesF F ts ds s1 w1).map _ = _
  rw [h2]
  rfl
theorem sto_nil : storesF F [] [] s w = some (s, w) := rfl
theorem sto_n {j : Nat} {ts : List Tx} {d : D} {ds : List D} (hj : j < s.length) (h : storesF F ts ds (s.set j (.fr d)) w = some (s2, w2)) : storesF F (.n j :: ts) (d :: ds) s w = some (s2, w2) := by
  rw [storesF, if_pos hj, h]
theorem sto_c {i : Nat} {a : E} {ts : List Tx} {d : D} {ds l : List D} {k : Int} {j : Nat} (ha : JM F a .pk s w (.int k) s1 w1) (h0 : s1[i]? = some (.l l)) (hj : ixN l.length k = some j) (h : storesF F ts ds (s1.set i (.l (l.set j d))) w1 = some (s2, w2)) : storesF F (.c i a :: ts) (d :: ds) s w = some (s2, w2) := by
  rw [storesF, ha.h, Option.bind_some]
  simp only []
  rw [h0, Option.bind_some]
  simp only [Sl.asL, Option.bind_some, asI]
  rw [hj, Option.bind_some, h]
end
theorem jst_skipF {F : Orc} {s : Sls} {w w1 : Option W} {rest : List Sx} {r : Res} {c : E} {t : Bool} (h : JE F c (vwS (fzA s)) w (.bl t) w1) (h0 : t = false) (h1 : JS F rest s w1 r) : JS F (.ifS c [.ret (.bl false)] [] :: rest) s w r := jst_skip h h0 h1
theorem jst_retB {F : Orc} {s : Sls} {w w1 : Option W} {rest : List Sx} {m : E} {t : Bool} (h : JE F m (vwS (fzA s)) w (.bl t) w1) (ht : t = true) : JS F (.ret m :: rest) s w (.rt (.bl true) w1) := by subst ht; exact jst_ret h
theorem flt_lt {n : Nat} {p : Nat → Bool} (h : n < 50000) : ((List.range n).filter p).length < 50000 := by
  have := List.length_filter_le p (List.range n)
  rw [List.length_range] at this
  omega
theorem fltl_lt {l : List Nat} {p : Nat → Bool} (h : l.length < 50000) : (l.filter p).length < 50000 := Nat.lt_of_le_of_lt (List.length_filter_le p l) h
theorem cmp_blEq (a b : Bool) : cmpD .Eq (.bl a) (.bl b) = some (a == b) := by cases a <;> cases b <;> rfl
theorem cmp_blNe (a b : Bool) : cmpD .NotEq (.bl a) (.bl b) = some (!(a == b)) := by cases a <;> cases b <;> rfl
theorem someNe (z : W) : some z ≠ none := fun h => nomatch h
theorem nrmP {s s2 : Sls} {ps : List PM} {sls : List Sl} (h : setPs ps sls s = s2) : setPs ps sls s = s2 := h
/-- a draw, by its name -/
structure JR (F : Orc) (f : PySem.Str) (ds : List D) (z : W) (d : D) (w' : Option W) : Prop where
  h : F f true ds (some z) = some (d, w')
theorem okrow {F : Orc} (f : PySem.Str) {ds : List D} {z : W} {d : D} {w' : Option W} (h : JR F f ds z d w') : F f true ds (some z) = some (d, w') := h.h
theorem seq_row (n : Nat) (h : Nat → Int) : seqD (rowT n h) = some ((List.range n).map fun i => D.int (h i)) := rfl
theorem seq_pls (l : List Nat) : seqD (plsT l) = some (l.map natD) := rfl
/-! ### equality of plain data without truth values -/
noncomputable def dec (p : Prop) : Bool := @decide p (Classical.propDecidable p)
theorem dec_iff {p : Prop} : dec p = true ↔ p := @decide_eq_true_iff p (Classical.propDecidable p)
theorem dec_f {p : Prop} : dec p = false ↔ ¬ p := @decide_eq_false_iff_not p (Classical.propDecidable p)
theorem dec_t {p : Prop} (h : p) : dec p = true := dec_iff.mpr h
theorem dec_n {p : Prop} (h : ¬ p) : dec p = false := dec_f.mpr h
theorem lt6 {n : Nat} (h : n < 60000) : n < 60000 := h
theorem nd_f {p : Prop} (h : p) : (!dec p) = false := by rw [dec_t h]; rfl
theorem or_f {a b : Bool} (h : a = false) (g : b = false) : (a || b) = false := by rw [h, g]; rfl
theorem and_t {a b : Bool} (h : a = true) (g : b = true) : (a && b) = true := by rw [h, g]; rfl
theorem nde_f {p : Prop} [Decidable p] (h : p) : (!decide p) = false := by rw [decide_eq_true h]; rfl
theorem beq_t {a b : Bool} (h : a = true ↔ b = true) : (a == b) = true := by rw [beq_iff_eq, Bool.eq_iff_iff]; exact h
inductive Pn : Nat → D → Prop
  | int (i : Int) (m : Nat) : Pn m (.int i)
  | non (m : Nat) : Pn m .non
  | tup {m : Nat} {xs : List D} : (∀ x ∈ xs, Pn m x) → xs.length < 50000 → Pn (m + 1) (.tup xs)
  | lst {m : Nat} {xs : List D} : (∀ x ∈ xs, Pn m x) → xs.length < 50000 → Pn (m + 1) (.lst xs)
theorem Pn.pl {m : Nat} {d : D} (h : Pn m d) : Pl m d := by
  induction h with
  | int i m => exact .int i m
  | non m => exact .non m
  | tup _ l ih => exact .tup ih l
  | lst _ l ih => exact .lst ih l
theorem Pn.up {m k : Nat} {d : D} (h : Pn m d) (hk : m ≤ k) : Pn k d := by
  induction h generalizing k with
  | int i m => exact .int i k
  | non m => exact .non k
  | tup _ l ih => obtain ⟨k', rfl⟩ : ∃ k', k = k' + 1 := ⟨k - 1, by omega⟩; exact .tup (fun x hx => ih x hx (by omega)) l
  | lst _ l ih => obtain ⟨k', rfl⟩ : ∃ k', k = k' + 1 := ⟨k - 1, by omega⟩; exact .lst (fun x hx => ih x hx (by omega)) l
theorem eqvAll_iff {xs : List D} (ih : ∀ x ∈ xs, ∀ (m : Nat) (e : D), Pn m e → (eqD x e = true ↔ x = e)) : ∀ (ys : List D) {m : Nat}, (∀ y ∈ ys, Pn m y) → (PyData.eqvAll (D.toPs xs) (D.toPs ys) = true ↔ xs = ys) := by
  induction xs with
  | nil =>
    intro ys m h
    cases ys with
    | nil => simp [D.toPs, PyData.eqvAll]
    | cons y ys => simp [D.toPs, PyData.eqvAll]
  | cons x xs ih2 =>
    intro ys m h
    cases ys with
    | nil => simp [D.toPs, PyData.eqvAll]
    | cons y ys =>
      rw [D.toPs, D.toPs, PyData.eqvAll, Bool.and_eq_true, ih2 (fun a ha => ih a (List.mem_cons_of_mem _ ha)) ys fun a ha => h a (List.mem_cons_of_mem _ ha)]
      have := ih x List.mem_cons_self m y (h y List.mem_cons_self)
      unfold eqD at this
      rw [this, List.cons.injEq]
theorem Pn.eq_iff {m : Nat} {d : D} (h : Pn m d) : ∀ (k : Nat) (e : D), Pn k e → (eqD d e = true ↔ d = e) := by
  induction h with
  | int i m =>
    intro k e he
    cases he with
    | int j => rw [eqD_int, decide_eq_true_eq]; exact ⟨fun z => by rw [z], fun z => by injection z⟩
    | _ => exact ⟨fun z => by first | (cases z; done) | (simp [eqD, D.toP, PyData.eqv] at z), fun z => nomatch z⟩
  | non m =>
    intro k e he
    cases he with
    | non => exact ⟨fun _ => rfl, fun _ => rfl⟩
    | _ => exact ⟨fun z => by first | (cases z; done) | (simp [eqD, D.toP, PyData.eqv] at z), fun z => nomatch z⟩
  | @tup m xs _ _ ih =>
    intro k e he
    cases he with
    | @tup k ys hy hl =>
      have := eqvAll_iff ih ys hy
      unfold eqD
      rw [D.toP, D.toP, PyData.eqv, this]
      exact ⟨fun z => by rw [z], fun z => by injection z⟩
    | _ => exact ⟨fun z => by first | (cases z; done) | (simp [eqD, D.toP, PyData.eqv] at z), fun z => nomatch z⟩
  | @lst m xs _ _ ih =>
    intro k e he
    cases he with
    | @lst k ys hy hl =>
      have := eqvAll_iff ih ys hy
      unfold eqD
      rw [D.toP, D.toP, PyData.eqv, this]
      exact ⟨fun z => by rw [z], fun z => by injection z⟩
    | _ => exact ⟨fun z => by first | (cases z; done) | (simp [eqD, D.toP, PyData.eqv] at z), fun z => nomatch z⟩
theorem Pn.eqD {m k : Nat} {d e : D} (h : Pn m d) (g : Pn k e) : Lt.eqD d e = dec (d = e) := by
  rw [Bool.eq_iff_iff, dec_iff, h.eq_iff k e g]
theorem Pn.cmp_eqD {m k : Nat} {d e : D} (h : Pn m d) (g : Pn k e) (hm : m ≤ 64) (hk : k ≤ 64) : cmpD .Eq d e = some (dec (d = e)) := by
  show (if (eqOk d && eqOk e) = true then some (Lt.eqD d e) else none) = _
  rw [h.pl.ok hm, g.pl.ok hk, h.eqD g]; rfl
theorem Pn.cmp_neD {m k : Nat} {d e : D} (h : Pn m d) (g : Pn k e) (hm : m ≤ 64) (hk : k ≤ 64) : cmpD .NotEq d e = some (!dec (d = e)) := by
  show (if (eqOk d && eqOk e) = true then some (!Lt.eqD d e) else none) = _
  rw [h.pl.ok hm, g.pl.ok hk, h.eqD g]; rfl
theorem Pn.all {m : Nat} {ys : List D} (h : ∀ y ∈ ys, Pn m y) (hm : m ≤ 64) : ys.all eqOk = true := List.all_eq_true.mpr fun y hy => (h y hy).pl.ok hm
theorem Pn.inD {m k : Nat} {d : D} {ys : List D} (h : Pn m d) (g : ∀ y ∈ ys, Pn k y) : Lt.inD d ys = dec (d ∈ ys) := by
  rw [Bool.eq_iff_iff, dec_iff]
  unfold Lt.inD
  rw [List.any_eq_true]
  constructor
  · rintro ⟨y, hy, e⟩
    rw [(g y hy).eq_iff m d h] at e
    rw [← e]; exact hy
  · intro hd
    exact ⟨d, hd, (h.eq_iff m d h).mpr rfl⟩
theorem Pn.cmp_inL {m k : Nat} {d : D} {ys : List D} (h : Pn m d) (g : ∀ y ∈ ys, Pn k y) (hm : m ≤ 64) (hk : k ≤ 64) : cmpD .In d (.lst ys) = some (dec (d ∈ ys)) := by
  show (if (eqOk d && ys.all eqOk) = true then some (Lt.inD d ys) else none) = _
  rw [h.pl.ok hm, Pn.all g hk, h.inD g]; rfl
theorem Pn.cmp_inT {m k : Nat} {d : D} {ys : List D} (h : Pn m d) (g : ∀ y ∈ ys, Pn k y) (hm : m ≤ 64) (hk : k ≤ 64) : cmpD .In d (.tup ys) = some (dec (d ∈ ys)) := by
  show (if (eqOk d && ys.all eqOk) = true then some (Lt.inD d ys) else none) = _
  rw [h.pl.ok hm, Pn.all g hk, h.inD g]; rfl
theorem Pn.cmp_ninL {m k : Nat} {d : D} {ys : List D} (h : Pn m d) (g : ∀ y ∈ ys, Pn k y) (hm : m ≤ 64) (hk : k ≤ 64) : cmpD .NotIn d (.lst ys) = some (!dec (d ∈ ys)) := by
  show (if (eqOk d && ys.all eqOk) = true then some (!Lt.inD d ys) else none) = _
  rw [h.pl.ok hm, Pn.all g hk, h.inD g]; rfl
theorem Pn.cmp_ninT {m k : Nat} {d : D} {ys : List D} (h : Pn m d) (g : ∀ y ∈ ys, Pn k y) (hm : m ≤ 64) (hk : k ≤ 64) : cmpD .NotIn d (.tup ys) = some (!dec (d ∈ ys)) := by
  show (if (eqOk d && ys.all eqOk) = true then some (!Lt.inD d ys) else none) = _
  rw [h.pl.ok hm, Pn.all g hk, h.inD g]; rfl
theorem pn_nat (l : List Nat) : ∀ x ∈ l.map natD, Pn 0 x := fun x hx => by
  obtain ⟨i, _, rfl⟩ := List.mem_map.mp hx
  exact .int _ _
theorem pn_row (n : Nat) (h : Nat → Int) : ∀ x ∈ rowD n h, Pn 0 x := fun x hx => by
  unfold rowD at hx
  obtain ⟨i, _, rfl⟩ := List.mem_map.mp hx
  exact .int _ _
theorem pn_rowT (n : Nat) (h : Nat → Int) (hn : n < 50000) : Pn 1 (rowT n h) := .tup (pn_row n h) (by rwa [rowD_len])
theorem pn_pls (l : List Nat) (h : l.length < 50000) : Pn 1 (plsT l) := .tup (pn_nat l) (by rwa [List.length_map])
theorem pn_plsL (l : List Nat) (h : l.length < 50000) : Pn 1 (plsL l) := .lst (pn_nat l) (by rwa [List.length_map])
theorem pn_pD (k : NK) : Pn 1 (pD k) := .tup (fun x hx => by
  rcases List.mem_cons.mp hx with z | hx
  · rw [z]; exact .int _ _
  · rw [List.mem_singleton.mp hx]; exact .int _ _) (by simp)
theorem rowT_inj {n : Nat} {a b : Nat → Int} : rowT n a = rowT n b ↔ ∀ i, i < n → a i = b i := by
  constructor
  · intro h i hi
    unfold rowT at h
    injection h with h
    have h1 : (rowD n a)[i]? = (rowD n b)[i]? := by rw [h]
    unfold rowD at h1
    rw [List.getElem?_map, List.getElem?_map, List.getElem?_range hi] at h1
    simp only [Option.map_some, Option.some.injEq, D.int.injEq] at h1
    exact h1
  · exact rowT_congr
theorem natD_inj {l m : List Nat} : l.map natD = m.map natD ↔ l = m := by
  constructor
  · intro h
    have := congrArg (List.map fun d => match d with | D.int i => i.toNat | _ => 0) h
    rw [List.map_map, List.map_map] at this
    have e : ((fun d => match d with | D.int i => i.toNat | _ => 0) ∘ natD) = id := by
      funext k
      rfl
    rw [e, List.map_id, List.map_id] at this
    exact this
  · intro h; rw [h]
theorem plsT_inj {l m : List Nat} : plsT l = plsT m ↔ l = m := by
  unfold plsT
  rw [D.tup.injEq, natD_inj]
theorem plsL_inj {l m : List Nat} : plsL l = plsL m ↔ l = m := by
  unfold plsL
  rw [D.lst.injEq, natD_inj]
theorem cmp_rowEq {n : Nat} {a b : Nat → Int} (hn : n ≤ 8) : cmpD .Eq (rowT n a) (rowT n b) = some (dec (∀ i, i < n → a i = b i)) := by
  rw [(pn_rowT n a (by omega)).cmp_eqD (pn_rowT n b (by omega)) (by decide) (by decide), rowT_inj]
theorem cmp_rowNe {n : Nat} {a b : Nat → Int} (hn : n ≤ 8) : cmpD .NotEq (rowT n a) (rowT n b) = some (!dec (∀ i, i < n → a i = b i)) := by
  rw [(pn_rowT n a (by omega)).cmp_neD (pn_rowT n b (by omega)) (by decide) (by decide), rowT_inj]
theorem cmp_plsEq {l m : List Nat} (h1 : l.length < 50000) (h2 : m.length < 50000) : cmpD .Eq (plsT l) (plsT m) = some (dec (l = m)) := by
  rw [(pn_pls l h1).cmp_eqD (pn_pls m h2) (by decide) (by decide), plsT_inj]
theorem cmp_plsNe {l m : List Nat} (h1 : l.length < 50000) (h2 : m.length < 50000) : cmpD .NotEq (plsT l) (plsT m) = some (!dec (l = m)) := by
  rw [(pn_pls l h1).cmp_neD (pn_pls m h2) (by decide) (by decide), plsT_inj]
theorem filter_none {p : Nat → Bool} {n : Nat} (h : ∀ i, i < n → p i = false) : (List.range n).filter p = [] := by
  rw [List.filter_eq_nil_iff]
  intro i hi
  rw [h i (List.mem_range.mp hi)]
  exact Bool.false_ne_true
theorem idx_tup {α : Type} {l : List α} {g : α → D} {i : Nat} {a : α} (h : l[i]? = some a) : idxD (.tup (l.map g)) (.int (i : Int)) = some (g a) := by
  show atI (l.map g) (i : Int) = _
  refine atI_nat ?_
  rw [List.getElem?_map, h]; rfl
/-! ### roofs and floors -/
section
variable {n : Nat} {rods : List Rod} {d : Nat → Nat → Int} {h g : Nat → Int} (n1 : 1 ≤ n)
include n1
theorem roof_at (p : Nat) : ∃ i, i < n ∧ roofF n d h p = h i - d i p := by
  obtain ⟨⟨i, hi, e⟩, _⟩ := max_at (g := fun i => h i - d i p) (range_ne n1)
  exact ⟨i, List.mem_range.mp hi, e⟩
theorem roof_ge (p : Nat) {i : Nat} (hi : i < n) : h i - d i p ≤ roofF n d h p := (max_at (g := fun i => h i - d i p) (range_ne n1)).2 i (List.mem_range.mpr hi)
theorem floor_at (p : Nat) : ∃ i, i < n ∧ floorF n d h p = h i + d i p := by
  obtain ⟨⟨i, hi, e⟩, _⟩ := min_at (g := fun i => h i + d i p) (range_ne n1)
  exact ⟨i, List.mem_range.mp hi, e⟩
theorem floor_le (p : Nat) {i : Nat} (hi : i < n) : floorF n d h p ≤ h i + d i p := (min_at (g := fun i => h i + d i p) (range_ne n1)).2 i (List.mem_range.mpr hi)
theorem roof_is {p : Nat} {v : Int} (h1 : ∃ i, i < n ∧ h i - d i p = v) (h2 : ∀ i, i < n → h i - d i p ≤ v) : roofF n d h p = v := by
  obtain ⟨i, hi, e⟩ := roof_at (d := d) (h := h) n1 p
  obtain ⟨j, hj, e2⟩ := h1
  have := h2 i hi
  have := roof_ge (d := d) (h := h) n1 p hj
  omega
theorem floor_is {p : Nat} {v : Int} (h1 : ∃ i, i < n ∧ h i + d i p = v) (h2 : ∀ i, i < n → v ≤ h i + d i p) : floorF n d h p = v := by
  obtain ⟨i, hi, e⟩ := floor_at (d := d) (h := h) n1 p
  obtain ⟨j, hj, e2⟩ := h1
  have := h2 i hi
  have := floor_le (d := d) (h := h) n1 p hj
  omega
variable (hp1 : ∀ r ∈ rods, 1 ≤ r.2.2) (Di : IsDist n rods d)
include hp1 Di
theorem roof_up1 {p : Nat} (hp : p < n) : h p ≤ roofF n d h p := by
  have := roof_ge (d := d) (h := h) n1 p hp
  have := Di.z p hp
  omega
theorem floor_dn1 {p : Nat} (hp : p < n) : floorF n d h p ≤ h p := by
  have := floor_le (d := d) (h := h) n1 p hp
  have := Di.z p hp
  omega
theorem roof_slope : Slope n d (roofF n d h) := fun p q hp hq => by
  obtain ⟨i, hi, e⟩ := roof_at (d := d) (h := h) n1 p
  have := roof_ge (d := d) (h := h) n1 q hi
  have := Di.tr hp1 hi hp hq
  omega
theorem floor_slope : Slope n d (floorF n d h) := fun p q hp hq => by
  obtain ⟨i, hi, e⟩ := floor_at (d := d) (h := h) n1 q
  have := floor_le (d := d) (h := h) n1 p hi
  have := Di.tr hp1 hi hq hp
  have := Di.sy hp1 hp hq
  omega
theorem roof_of_slope (S : Slope n d g) {p : Nat} (hp : p < n) : roofF n d g p = g p := by
  refine roof_is n1 ⟨p, hp, ?_⟩ fun i hi => ?_
  · have := Di.z p hp; omega
  · have := S i p hi hp; omega
theorem floor_of_slope (S : Slope n d g) {p : Nat} (hp : p < n) : floorF n d g p = g p := by
  refine floor_is n1 ⟨p, hp, ?_⟩ fun i hi => ?_
  · have := Di.z p hp; omega
  · have := S p i hp hi; have := Di.sy hp1 hp hi; omega
theorem roof_in {m : Int} (R : ∀ i, i < n → 0 ≤ h i ∧ h i ≤ m) {p : Nat} (hp : p < n) : 0 ≤ roofF n d h p ∧ roofF n d h p ≤ m := by
  obtain ⟨i, hi, e⟩ := roof_at (d := d) (h := h) n1 p
  have := roof_up1 n1 hp1 Di (h := h) hp
  have := R p hp
  have := R i hi
  have := Di.p i p hi hp
  omega
theorem floor_in {m : Int} (R : ∀ i, i < n → 0 ≤ h i ∧ h i ≤ m) {p : Nat} (hp : p < n) : 0 ≤ floorF n d h p ∧ floorF n d h p ≤ m := by
  obtain ⟨i, hi, e⟩ := floor_at (d := d) (h := h) n1 p
  have := floor_dn1 n1 hp1 Di (h := h) hp
  have := R p hp
  have := R i hi
  have := Di.p i p hi hp
  omega
theorem gap_slope (S : Slope n d g) : gapD n d g = .non := slope_gap_none fun i j hij hj => by
  have h1 := S i j (by omega) hj
  have h2 := S j i hj (by omega)
  have := Di.sy hp1 (i := i) (j := j) (by omega) hj
  split <;> omega
theorem gap_iff : gapD n d g = .non ↔ Slope n d g := by
  refine ⟨fun e i j hi hj => ?_, gap_slope n1 hp1 Di⟩
  have key : ∀ i j, i < j → j < n → badB d g i j = false := by
    intro i j hij hj
    cases q : badB d g i j with
    | false => rfl
    | true =>
      exfalso
      rw [gapD_is] at e
      have hm : (i, j) ∈ gapsL n d g := by
        unfold gapsL gapsAt
        rw [List.mem_flatMap]
        refine ⟨i, List.mem_range.mpr (by omega), ?_⟩
        rw [List.mem_map]
        refine ⟨j, ?_, rfl⟩
        rw [List.mem_filter, List.mem_range']
        exact ⟨⟨j - (i + 1), by omega, by omega⟩, q⟩
      cases l : gapsL n d g with
      | nil => rw [l] at hm; cases hm
      | cons a r => rw [l] at e; cases e
  have hb : ∀ i j, i < j → j < n → g i - g j ≤ d i j ∧ g j - g i ≤ d i j := fun i j hij hj => by
    have := key i j hij hj
    unfold badB at this
    rw [decide_eq_false_iff_not] at this
    split at this <;> omega
  rcases Nat.lt_trichotomy i j with z | z | z
  · exact (hb i j z hj).1
  · subst z
    have := Di.z i hi
    omega
  · have := (hb j i z hi).2
    have := Di.sy hp1 hi hj
    omega
end
theorem RowIn.ge {n : Nat} {m : Int} {h : Nat → Int} (R : RowIn n m h) {m2 : Int} (hm : m ≤ m2) : RowIn n m2 h := fun i hi => by
  have := R i hi
  omega
theorem cmp_gapIs (n : Nat) (f : Nat → Nat → Int) (h : Nat → Int) : cmpD .Is (gapD n f h) .non = some (dec (gapD n f h = .non)) := by
  rw [gapD_is]
  cases gapsL n f h with
  | nil => exact congrArg some (dec_t rfl).symm
  | cons a r => exact congrArg some (dec_n (fun z => nomatch z)).symm
theorem cmp_gapIsnt (n : Nat) (f : Nat → Nat → Int) (h : Nat → Int) : cmpD .IsNot (gapD n f h) .non = some (!dec (gapD n f h = .non)) := by
  rw [gapD_is]
  cases gapsL n f h with
  | nil => exact congrArg (fun b => some (!b)) (dec_t rfl).symm
  | cons a r => exact congrArg (fun b => some (!b)) (dec_n (p := ((List.map pD (a :: r)).head?.getD D.non = D.non)) (fun z => nomatch z)).symm
/-! ### the row of the greater heights -/
def maxR (g h : Nat → Int) (i : Nat) : Int := if h i > g i then h i else g i
def minR (g h : Nat → Int) (i : Nat) : Int := if h i < g i then h i else g i
theorem zipN_rows (n : Nat) (g h : Nat → Int) : itemsD .zipN [rowT n g, rowT n h] = some ((List.range n).map fun i => D.tup [.int (g i), .int (h i)]) := zip_rows n g h
theorem max_pair (a b : Int) : bltD .maxL [.tup [.int a, .int b]] = some (.int (if b > a then b else a)) := rfl
theorem min_pair (a b : Int) : bltD .minL [.tup [.int a, .int b]] = some (.int (if b < a then b else a)) := rfl
theorem jev_zmax {F : Orc} {ρ : Env} {w : Option W} {k : Nat} {ea eb : E} {n : Nat} {g h : Nat → Int} (hk : k < ρ.length) (hn : n ≤ 8) (ha : JE F ea ρ w (rowT n g) w) (hb : JE F eb ρ w (rowT n h) w) : JE F (.blt .tuple [.comp [k] (.n k) .zipN [ea, eb] none (.blt .maxL [.var k])]) ρ w (rowT n (maxR g h)) w := by
  refine jev_blt (jea_cons (jev_compA (List.range n) (fun i => D.tup [.int (g i), .int (h i)]) (g := fun i => .int (maxR g h i)) (jea_cons ha (jea_cons hb jea_nil)) (zipN_rows n g h) (fun i hi => ju (by unfold bindT; rw [if_pos (by simpa [wipeE] using hk)]) (jev_blt (jea_cons (jev_var (List.getElem?_set_self (by simpa [wipeE] using hk))) jea_nil) (max_pair _ _)) rfl) (by rw [List.length_range]; omega)) jea_nil) ?_
  rfl
theorem jev_zmin {F : Orc} {ρ : Env} {w : Option W} {k : Nat} {ea eb : E} {n : Nat} {g h : Nat → Int} (hk : k < ρ.length) (hn : n ≤ 8) (ha : JE F ea ρ w (rowT n g) w) (hb : JE F eb ρ w (rowT n h) w) : JE F (.blt .tuple [.comp [k] (.n k) .zipN [ea, eb] none (.blt .minL [.var k])]) ρ w (rowT n (minR g h)) w := by
  refine jev_blt (jea_cons (jev_compA (List.range n) (fun i => D.tup [.int (g i), .int (h i)]) (g := fun i => .int (minR g h i)) (jea_cons ha (jea_cons hb jea_nil)) (zipN_rows n g h) (fun i hi => ju (by unfold bindT; rw [if_pos (by simpa [wipeE] using hk)]) (jev_blt (jea_cons (jev_var (List.getElem?_set_self (by simpa [wipeE] using hk))) jea_nil) (min_pair _ _)) rfl) (by rw [List.length_range]; omega)) jea_nil) ?_
  rfl
def OkHigher (F : Orc) : Prop := ∀ n rods g h, NetOk n rods → RowIn n 99 g → RowIn n 99 h → F "higher" false [netD n rods, rowT n g, rowT n h] none = some (rowT n (maxR g h), none)
def b_higher : List Sx := [.expr (.fz []) (.call "need_net" [.var 0]), .expr (.fz []) (.call "need_row" [.var 0, .var 1]), .expr (.fz []) (.call "need_row" [.var 0, .var 2]), .ret (.blt .tuple [.comp [3] (.n 3) .zipN [.var 1, .var 2] none (.blt .maxL [.var 3])])]
theorem higher_run (F : Orc) (h1 : OkNeedNet F) (h2 : OkNeedRow F) {n rods g h} (N : NetOk n rods) (R : RowIn n 99 g) (S : RowIn n 99 h) :
    (rss F b_higher [.fr (netD n rods), .fr (rowT n g), .fr (rowT n h), .un] none).bind resD = some (rowT n (maxR g h), none) := by
  have hn := N.hi
  apply jrun_rt
  unfold b_higher
  refine jst_expr (jem_0 (jev_call (jea_cons (jev_var rfl) jea_nil) (h1 _ _ N))) ?_
  refine jst_expr (jem_0 (jev_call (jea_cons (jev_var rfl) (jea_cons (jev_var rfl) jea_nil)) (h2 _ _ _ R))) ?_
  refine jst_expr (jem_0 (jev_call (jea_cons (jev_var rfl) (jea_cons (jev_var rfl) jea_nil)) (h2 _ _ _ S))) ?_
  exact jst_ret (jev_zmax (by simp [vwS, fzA, fzG]) hn (jev_var rfl) (jev_var rfl))
theorem mx_in {n : Nat} {m : Int} {g h : Nat → Int} (R : RowIn n m g) (S : RowIn n m h) : RowIn n m (maxR g h) := fun i hi => by
  have := R i hi
  have := S i hi
  unfold maxR
  split <;> omega
theorem mn_in {n : Nat} {m : Int} {g h : Nat → Int} (R : RowIn n m g) (S : RowIn n m h) : RowIn n m (minR g h) := fun i hi => by
  have := R i hi
  have := S i hi
  unfold minR
  split <;> omega
end Lt

set_option Elab.async false
set_option linter.all false
set_option maxRecDepth 100000
set_option maxHeartbeats 400000
/-! LtRw: plain Lean: while, loops that stop; roofs and floors of a law. -/
namespace Lt
open PySem PySem.Spec PyProof.Rows L2
/-! ### while, and loops that stop -/
structure JW (F : Orc) (fu : Nat) (c : E) (body : List Sx) (s : Sls) (w : Option W) (r : Res) : Prop where
  h : rs F (.whileS fu c body) s w = some r
section
variable {F : Orc} {w w1 w2 : Option W} {s s1 s2 : Sls} {r : Res} {rest : List Sx}
theorem jw_done {fu : Nat} {c : E} {body : List Sx} (h : JM F c .pk s w (.bl false) s1 w1) : JW F (fu + 1) c body s w (.nx s1 w1) := ⟨by
  rw [rs, whL, h.h]; rfl⟩
theorem jw_step {fu : Nat} {c : E} {body : List Sx} (h : JM F c .pk s w (.bl true) s1 w1) (h2 : JS F body s1 w1 (.nx s2 w2)) (h3 : JW F fu c body s2 w2 r) : JW F (fu + 1) c body s w r := ⟨by
  have e := h3.h
  rw [rs] at e
  rw [rs, whL, h.h]
  show (rss F body s1 w1).bind _ = _
  rw [h2.h]
  exact e⟩
theorem jst_while {fu : Nat} {c : E} {body : List Sx} (h : JW F fu c body s w (.nx s1 w1)) (hr : JS F rest s1 w1 r) : JS F (.whileS fu c body :: rest) s w r := ⟨by
  rw [rss, h.h, Option.bind_some]
  exact hr.h⟩
end
theorem jl_brk {F : Orc} {w : Option W} {tg : Tg} {body : List Sx} {α : Type} (enc : α → D) (I : Sls → Prop) (p : α → Bool) (R : α → Sls → Prop) : ∀ (l : List α) (s : Sls), I s → (∃ a ∈ l, p a = true) →
    (∀ a s, a ∈ l → I s → ∃ s1, bindS tg (enc a) s = some s1 ∧ (p a = false → ∃ s', JS F body s1 w (.nx s' w) ∧ I s') ∧ (p a = true → ∃ s', JS F body s1 w (.bk s' w) ∧ R a s')) →
    ∃ a ∈ l, p a = true ∧ ∃ s', JL F tg body (l.map enc) s w (.nx s' w) ∧ R a s'
  | [], s, _, ⟨_, h, _⟩, _ => by simp at h
  | a :: l, s, h0, hex, h => by
    obtain ⟨s1, e1, h1, h2⟩ := h a s (by simp) h0
    cases q : p a with
    | true =>
      obtain ⟨s', e2, h3⟩ := h2 q
      refine ⟨a, by simp, q, s', ⟨?_⟩, h3⟩
      rw [List.map_cons, forL, e1, Option.bind_some, e2.h]; rfl
    | false =>
      obtain ⟨s', e2, h3⟩ := h1 q
      obtain ⟨b, hb, hq⟩ := hex
      obtain ⟨b2, hb2, q2, s2, e3, h4⟩ := jl_brk enc I p R l s' h3 ⟨b, by
        rcases List.mem_cons.mp hb with z | z
        · subst z; rw [q] at hq; cases hq
        · exact z, hq⟩ fun a s ha => h a s (by simp [ha])
      refine ⟨b2, by simp [hb2], q2, s2, ⟨?_⟩, h4⟩
      rw [List.map_cons, forL, e1, Option.bind_some, e2.h]
      exact e3.h
/-! ### roofs and floors of a law: mended till nothing changes -/
def sumN (n : Nat) (x : Nat → Int) : Int := ((List.range n).map x).sum
theorem sumN_succ (n : Nat) (x : Nat → Int) : sumN (n + 1) x = sumN n x + x n := by
  unfold sumN
  rw [List.range_succ, List.map_append, List.sum_append]
  simp
theorem sumN_congr {n : Nat} {x y : Nat → Int} (h : ∀ i, i < n → x i = y i) : sumN n x = sumN n y := by
  unfold sumN
  rw [List.map_congr_left fun i hi => h i (List.mem_range.mp hi)]
theorem sumN_le {x y : Nat → Int} : ∀ {n : Nat}, (∀ i, i < n → x i ≤ y i) → sumN n x ≤ sumN n y
  | 0, _ => Int.le_refl _
  | n + 1, h => by
    rw [sumN_succ, sumN_succ]
    have := sumN_le (n := n) fun i hi => h i (by omega)
    have := h n (by omega)
    omega
theorem sumN_upd {x : Nat → Int} {j : Nat} {v : Int} : ∀ {n : Nat}, j < n → sumN n (updF x j v) = sumN n x + (v - x j)
  | 0, h => by omega
  | n + 1, h => by
    rw [sumN_succ, sumN_succ]
    by_cases c : j = n
    · subst c
      rw [sumN_congr (n := j) (x := updF x j v) (y := x) fun i hi => if_neg (by omega), show updF x j v j = v from if_pos rfl]
      omega
    · rw [sumN_upd (n := n) (by omega), show updF x j v n = x n from if_neg (by omega)]
      omega
def rS (f : Nat → Nat → Int) (i : Nat) (t : (Nat → Int) × Bool) (j : Nat) : (Nat → Int) × Bool := if t.1 j < t.1 i - f i j then (updF t.1 j (t.1 i - f i j), true) else t
def rP (n : Nat) (f : Nat → Nat → Int) (x : Nat → Int) (k : Nat) : (Nat → Int) × Bool := (List.range k).foldl (fun t i => (List.range n).foldl (rS f i) t) (x, false)
structure MI (n : Nat) (x0 u : Nat → Int) (t : (Nat → Int) × Bool) : Prop where
  lo : ∀ i, i < n → x0 i ≤ t.1 i
  up : ∀ i, i < n → t.1 i ≤ u i
  ch : t.2 = true → sumN n x0 < sumN n t.1
  eq : t.2 = false → t.1 = x0
theorem MI.step {n : Nat} {f : Nat → Nat → Int} {x0 u : Nat → Int} {t : (Nat → Int) × Bool} (hu : ∀ i j, i < n → j < n → u i - f i j ≤ u j) (I : MI n x0 u t) {i j : Nat} (hi : i < n) (hj : j < n) :
    MI n x0 u (rS f i t j) ∧ ((rS f i t j).2 = false → t.2 = false ∧ x0 i - f i j ≤ x0 j) := by
  unfold rS
  by_cases c : t.1 j < t.1 i - f i j
  · rw [if_pos c]
    refine ⟨⟨fun k hk => ?_, fun k hk => ?_, fun _ => ?_, fun z => by cases z⟩, fun z => by cases z⟩
    · have := I.lo k hk
      show x0 k ≤ updF t.1 j (t.1 i - f i j) k
      unfold updF
      split
      · rename_i e; subst e; omega
      · exact this
    · have := I.up k hk
      show updF t.1 j (t.1 i - f i j) k ≤ u k
      unfold updF
      split
      · rename_i e
        subst e
        have := hu i k hi hk
        have := I.up i hi
        omega
      · exact this
    · show sumN n x0 < sumN n (updF t.1 j (t.1 i - f i j))
      rw [sumN_upd hj]
      have := sumN_le (n := n) I.lo
      omega
  · rw [if_neg c]
    refine ⟨I, fun z => ⟨z, ?_⟩⟩
    rw [I.eq z] at c
    omega
theorem MI.row {n : Nat} {f : Nat → Nat → Int} {x0 u : Nat → Int} {t : (Nat → Int) × Bool} (hu : ∀ i j, i < n → j < n → u i - f i j ≤ u j) (I : MI n x0 u t) {i : Nat} (hi : i < n) : ∀ k, k ≤ n →
    MI n x0 u ((List.range k).foldl (rS f i) t) ∧ (((List.range k).foldl (rS f i) t).2 = false → t.2 = false ∧ ∀ j, j < k → x0 i - f i j ≤ x0 j)
  | 0, _ => ⟨I, fun z => ⟨z, fun j hj => by omega⟩⟩
  | k + 1, hk => by
    obtain ⟨h1, h2⟩ := MI.row hu I hi k (by omega)
    obtain ⟨g1, g2⟩ := h1.step hu hi (j := k) (by omega)
    rw [List.range_succ, List.foldl_append]
    refine ⟨g1, fun z => ?_⟩
    obtain ⟨z1, z2⟩ := g2 z
    obtain ⟨z3, z4⟩ := h2 z1
    refine ⟨z3, fun j hj => ?_⟩
    by_cases e : j = k
    · subst e; exact z2
    · exact z4 j (by omega)
theorem MI.all {n : Nat} {f : Nat → Nat → Int} {x0 u : Nat → Int} (hu : ∀ i j, i < n → j < n → u i - f i j ≤ u j) (h0 : ∀ i, i < n → x0 i ≤ u i) : ∀ k, k ≤ n → MI n x0 u (rP n f x0 k) ∧ ((rP n f x0 k).2 = false → ∀ i j, i < k → j < n → x0 i - f i j ≤ x0 j)
  | 0, _ => ⟨⟨fun i _ => Int.le_refl _, h0, (fun z => absurd (show false = true from z) Bool.false_ne_true), (fun _ => rfl)⟩, (fun _ i j hi _ => by omega)⟩
  | k + 1, hk => by
    obtain ⟨h1, h2⟩ := MI.all hu h0 k (by omega)
    obtain ⟨g1, g2⟩ := h1.row hu (i := k) (by omega) n (Nat.le_refl _)
    unfold rP at g1 g2 h1 h2 ⊢
    rw [List.range_succ, List.foldl_append]
    refine ⟨g1, fun z i j hi hj => ?_⟩
    obtain ⟨z1, z2⟩ := g2 z
    by_cases e : i = k
    · subst e; exact z2 j hj
    · exact h2 z1 i j (by omega) hj
def bLR1 : List Sx := [.ifS (.cmp .Lt (.idx (.var 2) (.var 5)) (.bin .Sub (.idx (.var 2) (.var 4)) (.idx (.idx (.var 0) (.var 4)) (.var 5)))) [.parS [.c 2 (.var 5), .n 3] [.bin .Sub (.idx (.var 2) (.var 4)) (.idx (.idx (.var 0) (.var 4)) (.var 5)), .bl true]] []]
def bLR2 : List Sx := [.forS (.n 5) .range (.fz []) [.blt .len [.var 1]] bLR1]
def bLR3 : List Sx := [.set 3 (.fz []) (.bl false), .forS (.n 4) .range (.fz []) [.blt .len [.var 1]] bLR2]
def b_law_roof : List Sx := [.par [⟨2, .l, (.fz []), (.blt .list [.var 1])⟩, ⟨3, .fr, (.fz []), (.bl true)⟩], .whileS 4000 (.var 3) [.set 3 (.fz []) (.bl false), .forS (.n 4) .range (.fz []) [.blt .len [.var 1]] [.forS (.n 5) .range (.fz []) [.blt .len [.var 1]] [.ifS (.cmp .Lt (.idx (.var 2) (.var 5)) (.bin .Sub (.idx (.var 2) (.var 4)) (.idx (.idx (.var 0) (.var 4)) (.var 5)))) [.parS [.c 2 (.var 5), .n 3] [.bin .Sub (.idx (.var 2) (.var 4)) (.idx (.idx (.var 0) (.var 4)) (.var 5)), .bl true]] []]]], .ret (.blt .tuple [.var 2])]
theorem law_roof_eq : b_law_roof = [.par [⟨2, .l, (.fz []), (.blt .list [.var 1])⟩, ⟨3, .fr, (.fz []), (.bl true)⟩], .whileS 4000 (.var 3) bLR3, .ret (.blt .tuple [.var 2])] := rfl
theorem lr1_step (F : Orc) {n : Nat} {f h} {i j : Nat} (hi : i < n) (hj : j < n) (t : (Nat → Int) × Bool) :
    JS F bLR1 [.fr (tblL n f), .fr (rowT n h), .l (rowD n t.1), .fr (.bl t.2), .fr (.int (i : Int)), .fr (.int (j : Int))] none (.nx [.fr (tblL n f), .fr (rowT n h), .l (rowD n (rS f i t j).1), .fr (.bl (rS f i t j).2), .fr (.int (i : Int)), .fr (.int (j : Int))] none) := by
  unfold bLR1 rS
  refine jst_if (t := decide (t.1 j < t.1 i - f i j)) (w1 := none) ?_ (fun c => ?_) (fun c => ?_)
  · repeat' (first | exact jev_var rfl | exact jev_int | exact jev_glo | exact jev_bl | exact jev_non | exact jev_str | apply jev_bin | apply jev_cmp | apply jev_and | apply jev_or | apply jev_not | apply jev_idx | apply jev_chain | apply jev_chain3 | apply jev_iteI | apply jev_tup | apply jev_lst | apply jev_slice | apply jev_call | apply jev_blt | apply jev_isi2 | apply jev_isi | apply jev_neg | exact jea_nil | apply jea_cons | exact jeo_none | apply jeo_some | exact jec_none | apply jec_some | apply jev_compRA | apply jev_compR | apply jev_compPA | apply jev_compP | refine' jt rfl ?_ ?_ ?_ ?_ | refine' ju rfl ?_ ?_ | apply jem_0 | apply jem_pk | apply jem_al | apply jem_fz | apply jes_0 | apply jes_pk | apply jes_fz | apply jst_set | apply jst_new1 | apply jst_expr | apply jst_ret | apply jst_unp | exact jst_nil | apply jst_app | apply jst_par | exact jeps_nil | apply jeps_cons | apply jep_fr | apply jep_l | exact jep_d | intro _ | ((with_reducible apply nrmS); simp only [List.set_cons_zero, List.set_cons_succ]; exact rfl) | apply opD_add | apply opD_sub | apply cmpD_lt | apply cmpD_le | apply cmpD_gt | apply cmpD_ge | apply cmpD_eqI | apply cmpD_neI | (apply idx_rowT; first | assumption | omega) | (apply idx_tblL; first | assumption | omega) | (apply idx_row; first | assumption | omega) | exact rfl | assumption | (simp only [List.length_cons, List.length_nil, List.length_map, List.length_range]; omega))
  · rw [if_pos (of_decide_eq_true c)]
    refine jst_parS (ds := [.int (t.1 i - f i j), .bl true]) (w1 := none) (w2 := none) (jes_pk (jea_cons ?_ (jea_cons jev_bl jea_nil)) rfl) (sto_c (k := (j : Int)) (jem_pk (jev_var rfl) rfl) rfl (by rw [rowD_len]; exact ixN_nat hj) (sto_n (by simp) sto_nil)) ?_
    · repeat' (first | exact jev_var rfl | exact jev_int | exact jev_glo | exact jev_bl | exact jev_non | exact jev_str | apply jev_bin | apply jev_cmp | apply jev_and | apply jev_or | apply jev_not | apply jev_idx | apply jev_chain | apply jev_chain3 | apply jev_iteI | apply jev_tup | apply jev_lst | apply jev_slice | apply jev_call | apply jev_blt | apply jev_isi2 | apply jev_isi | apply jev_neg | exact jea_nil | apply jea_cons | exact jeo_none | apply jeo_some | exact jec_none | apply jec_some | apply jev_compRA | apply jev_compR | apply jev_compPA | apply jev_compP | refine' jt rfl ?_ ?_ ?_ ?_ | refine' ju rfl ?_ ?_ | apply jem_0 | apply jem_pk | apply jem_al | apply jem_fz | apply jes_0 | apply jes_pk | apply jes_fz | apply jst_set | apply jst_new1 | apply jst_expr | apply jst_ret | apply jst_unp | exact jst_nil | apply jst_app | apply jst_par | exact jeps_nil | apply jeps_cons | apply jep_fr | apply jep_l | exact jep_d | intro _ | ((with_reducible apply nrmS); simp only [List.set_cons_zero, List.set_cons_succ]; exact rfl) | apply opD_add | apply opD_sub | apply cmpD_lt | apply cmpD_le | apply cmpD_gt | apply cmpD_ge | apply cmpD_eqI | apply cmpD_neI | (apply idx_rowT; first | assumption | omega) | (apply idx_tblL; first | assumption | omega) | (apply idx_row; first | assumption | omega) | exact rfl | assumption | (simp only [List.length_cons, List.length_nil, List.length_map, List.length_range]; omega))
    · rw [rowD_set n t.1 (updF t.1 j (t.1 i - f i j)) (fun y hy => if_neg hy) (if_pos rfl)]
      exact jst_nil
  · rw [if_neg (of_decide_eq_false c)]
    exact jst_nil
theorem lr2_step (F : Orc) {n : Nat} (hn : n ≤ 8) {f h} {i : Nat} (hi : i < n) (t : (Nat → Int) × Bool) (x5 : Sl) :
    ∃ y5, JS F bLR2 [.fr (tblL n f), .fr (rowT n h), .l (rowD n t.1), .fr (.bl t.2), .fr (.int (i : Int)), x5] none (.nx [.fr (tblL n f), .fr (rowT n h), .l (rowD n ((List.range n).foldl (rS f i) t).1), .fr (.bl ((List.range n).foldl (rS f i) t).2), .fr (.int (i : Int)), y5] none) := by
  obtain ⟨s', w', e, y5, rfl, rfl⟩ := jl_rng (F := F) (tg := .n 5) (body := bLR1) n
    (fun k s w2 => ∃ y5, s = [.fr (tblL n f), .fr (rowT n h), .l (rowD n ((List.range k).foldl (rS f i) t).1), .fr (.bl ((List.range k).foldl (rS f i) t).2), .fr (.int (i : Int)), y5] ∧ w2 = none)
    (s := [.fr (tblL n f), .fr (rowT n h), .l (rowD n t.1), .fr (.bl t.2), .fr (.int (i : Int)), x5]) (w := none)
    ⟨_, rfl, rfl⟩
    (fun k s w2 hk ⟨y5, hs, hw⟩ => by
      subst hs hw
      rw [List.range_succ, List.foldl_append]
      exact ⟨_, _, _, rfl, lr1_step F hi hk _, _, rfl, rfl⟩)
  refine ⟨y5, ?_⟩
  unfold bLR2
  exact jst_for (jes_0 (jea_cons (jev_blt (jea_cons (jev_var rfl) jea_nil) (bltD_lenR n h)) jea_nil)) (rngI n (by omega)) e jst_nil
theorem lr3_step (F : Orc) {n : Nat} (hn : n ≤ 8) {f h} (x : Nat → Int) (x3 x4 x5 : Sl) :
    ∃ y4 y5, JS F bLR3 [.fr (tblL n f), .fr (rowT n h), .l (rowD n x), x3, x4, x5] none (.nx [.fr (tblL n f), .fr (rowT n h), .l (rowD n (rP n f x n).1), .fr (.bl (rP n f x n).2), y4, y5] none) := by
  obtain ⟨s', w', e, y4, y5, rfl, rfl⟩ := jl_rng (F := F) (tg := .n 4) (body := bLR2) n
    (fun k s w2 => ∃ y4 y5, s = [.fr (tblL n f), .fr (rowT n h), .l (rowD n (rP n f x k).1), .fr (.bl (rP n f x k).2), y4, y5] ∧ w2 = none)
    (s := [.fr (tblL n f), .fr (rowT n h), .l (rowD n x), .fr (.bl false), x4, x5]) (w := none)
    ⟨_, _, rfl, rfl⟩
    (fun k s w2 hk ⟨y4, y5, hs, hw⟩ => by
      subst hs hw
      obtain ⟨z5, e⟩ := lr2_step F hn (f := f) (h := h) hk (rP n f x k) y5
      have ek : rP n f x (k + 1) = (List.range n).foldl (rS f k) (rP n f x k) := by
        unfold rP
        rw [List.range_succ, List.foldl_append]
        rfl
      rw [ek]
      exact ⟨_, _, _, rfl, e, _, _, rfl, rfl⟩)
  refine ⟨y4, y5, ?_⟩
  unfold bLR3
  refine jst_set (w1 := none) (jem_0 jev_bl) rfl ?_
  exact jst_for (jes_0 (jea_cons (jev_blt (jea_cons (jev_var rfl) jea_nil) (bltD_lenR n h)) jea_nil)) (rngI n (by omega)) e jst_nil
theorem lr_while (F : Orc) {n : Nat} (hn : n ≤ 8) {f h} {u : Nat → Int} (hu : ∀ i j, i < n → j < n → u i - f i j ≤ u j) : ∀ (fu : Nat) (x : Nat → Int) (x4 x5 : Sl), (∀ i, i < n → x i ≤ u i) → sumN n u - sumN n x < (fu : Int) →
    ∃ (y : Nat → Int) (y4 y5 : Sl), (∀ i, i < n → x i ≤ y i ∧ y i ≤ u i) ∧ (∀ i j, i < n → j < n → y i - f i j ≤ y j) ∧ JW F (fu + 1) (.var 3) bLR3 [.fr (tblL n f), .fr (rowT n h), .l (rowD n x), .fr (.bl true), x4, x5] none (.nx [.fr (tblL n f), .fr (rowT n h), .l (rowD n y), .fr (.bl false), y4, y5] none)
  | 0, x, x4, x5, h0, hs => by
    have := sumN_le (n := n) h0
    omega
  | fu + 1, x, x4, x5, h0, hs => by
    obtain ⟨z4, z5, e⟩ := lr3_step F hn (f := f) (h := h) x (.fr (.bl true)) x4 x5
    obtain ⟨I, c0⟩ := MI.all hu h0 n (Nat.le_refl _)
    have e1 : JM F (.var 3) .pk [.fr (tblL n f), .fr (rowT n h), .l (rowD n x), .fr (.bl true), x4, x5] none (.bl true) [.fr (tblL n f), .fr (rowT n h), .l (rowD n x), .fr (.bl true), x4, x5] none := jem_pk (jev_var rfl) rfl
    cases q : (rP n f x n).2 with
    | false =>
      rw [q, I.eq q] at e
      refine ⟨x, z4, z5, fun i hi => ⟨Int.le_refl _, h0 i hi⟩, fun i j hi hj => c0 q i j hi hj, jw_step e1 e (jw_done (jem_pk (jev_var rfl) rfl))⟩
    | true =>
      rw [q] at e
      have := I.ch q
      obtain ⟨y, y4, y5, g1, g2, g3⟩ := lr_while F hn (h := h) hu fu (rP n f x n).1 z4 z5 I.up (by omega)
      exact ⟨y, y4, y5, fun i hi => ⟨Int.le_trans (I.lo i hi) (g1 i hi).1, (g1 i hi).2⟩, g2, jw_step e1 e g3⟩
def OkLawRoof (F : Orc) : Prop := ∀ n rods d h, NetOk n rods → IsDist n rods d → RowIn n 99 h → F "_law_roof" false [tblL n d, rowT n h] none = some (rowT n (roofF n d h), none)
theorem law_roof_run (F : Orc) {n rods d h} (N : NetOk n rods) (Di : IsDist n rods d) (R : RowIn n 99 h) : (rss F b_law_roof [.fr (tblL n d), .fr (rowT n h), .un, .un, .un, .un] none).bind resD = some (rowT n (roofF n d h), none) := by
  have hn := N.hi
  have n1 := N.lo
  have S := roof_slope (h := h) n1 N.p1 Di
  have s1 : sumN n (roofF n d h) ≤ 792 := by
    have := sumN_le (n := n) (x := roofF n d h) (y := fun _ => 99) fun i hi => (roof_in n1 N.p1 Di R hi).2
    have e : ∀ k, sumN k (fun _ => (99 : Int)) = 99 * k := fun k => by
      induction k with
      | zero => rfl
      | succ k ih => rw [sumN_succ, ih]; omega
    rw [e] at this
    omega
  have s2 : 0 ≤ sumN n h := by
    have := sumN_le (n := n) (x := fun _ => 0) (y := h) fun i hi => (R i hi).1
    have e : ∀ k, sumN k (fun _ => (0 : Int)) = 0 := fun k => by
      induction k with
      | zero => rfl
      | succ k ih => rw [sumN_succ, ih]; rfl
    rw [e] at this
    exact this
  obtain ⟨y, y4, y5, g1, g2, g3⟩ := lr_while F hn (f := d) (h := h) (u := roofF n d h) (fun i j hi hj => by have := S i j hi hj; omega) 3999 h .un .un (fun i hi => roof_up1 n1 N.p1 Di hi) (by omega)
  have ey : ∀ i, i < n → y i = roofF n d h i := fun p hp => by
    obtain ⟨i, hi, e⟩ := roof_at (d := d) (h := h) n1 p
    have := (g1 p hp).2
    have := (g1 i hi).1
    have := g2 i p hi hp
    omega
  apply jrun_rt
  rw [law_roof_eq]
  refine jst_par (w1 := none) (sls := [.l (rowD n h), .fr (.bl true)]) (jeps_cons (jep_l (jem_0 (jev_blt (jea_cons (jev_var rfl) jea_nil) rfl))) (jeps_cons (jep_fr (jem_0 jev_bl)) jeps_nil)) (by first | (simp only [List.set_cons_zero, List.set_cons_succ, setPs]; exact rfl) | exact rfl) ?_
  refine jst_while g3 ?_
  refine jst_ret (jev_blt (jea_cons (jev_var rfl) jea_nil) ?_)
  show some (D.tup (rowD n y)) = some (rowT n (roofF n d h))
  exact congrArg some (rowT_congr ey)
def gS (f : Nat → Nat → Int) (i : Nat) (t : (Nat → Int) × Bool) (j : Nat) : (Nat → Int) × Bool := if t.1 j > t.1 i + f i j then (updF t.1 j (t.1 i + f i j), true) else t
def gP (n : Nat) (f : Nat → Nat → Int) (x : Nat → Int) (k : Nat) : (Nat → Int) × Bool := (List.range k).foldl (fun t i => (List.range n).foldl (gS f i) t) (x, false)
structure GI (n : Nat) (x0 u : Nat → Int) (t : (Nat → Int) × Bool) : Prop where
  lo : ∀ i, i < n → t.1 i ≤ x0 i
  up : ∀ i, i < n → u i ≤ t.1 i
  ch : t.2 = true → sumN n t.1 < sumN n x0
  eq : t.2 = false → t.1 = x0
theorem GI.step {n : Nat} {f : Nat → Nat → Int} {x0 u : Nat → Int} {t : (Nat → Int) × Bool} (hu : ∀ i j, i < n → j < n → u j ≤ u i + f i j) (I : GI n x0 u t) {i j : Nat} (hi : i < n) (hj : j < n) :
    GI n x0 u (gS f i t j) ∧ ((gS f i t j).2 = false → t.2 = false ∧ x0 j ≤ x0 i + f i j) := by
  unfold gS
  by_cases c : t.1 j > t.1 i + f i j
  · rw [if_pos c]
    refine ⟨⟨fun k hk => ?_, fun k hk => ?_, fun _ => ?_, fun z => by cases z⟩, fun z => by cases z⟩
    · have := I.lo k hk
      show updF t.1 j (t.1 i + f i j) k ≤ x0 k
      unfold updF
      split
      · rename_i e; subst e; omega
      · exact this
    · have := I.up k hk
      show u k ≤ updF t.1 j (t.1 i + f i j) k
      unfold updF
      split
      · rename_i e
        subst e
        have := hu i k hi hk
        have := I.up i hi
        omega
      · exact this
    · show sumN n (updF t.1 j (t.1 i + f i j)) < sumN n x0
      rw [sumN_upd hj]
      have := sumN_le (n := n) I.lo
      omega
  · rw [if_neg c]
    refine ⟨I, fun z => ⟨z, ?_⟩⟩
    rw [I.eq z] at c
    omega
theorem GI.row {n : Nat} {f : Nat → Nat → Int} {x0 u : Nat → Int} {t : (Nat → Int) × Bool} (hu : ∀ i j, i < n → j < n → u j ≤ u i + f i j) (I : GI n x0 u t) {i : Nat} (hi : i < n) : ∀ k, k ≤ n →
    GI n x0 u ((List.range k).foldl (gS f i) t) ∧ (((List.range k).foldl (gS f i) t).2 = false → t.2 = false ∧ ∀ j, j < k → x0 j ≤ x0 i + f i j)
  | 0, _ => ⟨I, fun z => ⟨z, fun j hj => by omega⟩⟩
  | k + 1, hk => by
    obtain ⟨h1, h2⟩ := GI.row hu I hi k (by omega)
    obtain ⟨g1, g2⟩ := h1.step hu hi (j := k) (by omega)
    rw [List.range_succ, List.foldl_append]
    refine ⟨g1, fun z => ?_⟩
    obtain ⟨z1, z2⟩ := g2 z
    obtain ⟨z3, z4⟩ := h2 z1
    refine ⟨z3, fun j hj => ?_⟩
    by_cases e : j = k
    · subst e; exact z2
    · exact z4 j (by omega)
theorem GI.all {n : Nat} {f : Nat → Nat → Int} {x0 u : Nat → Int} (hu : ∀ i j, i < n → j < n → u j ≤ u i + f i j) (h0 : ∀ i, i < n → u i ≤ x0 i) : ∀ k, k ≤ n → GI n x0 u (gP n f x0 k) ∧ ((gP n f x0 k).2 = false → ∀ i j, i < k → j < n → x0 j ≤ x0 i + f i j)
  | 0, _ => ⟨⟨fun i _ => Int.le_refl _, h0, (fun z => absurd (show false = true from z) Bool.false_ne_true), (fun _ => rfl)⟩, (fun _ i j hi _ => by omega)⟩
  | k + 1, hk => by
    obtain ⟨h1, h2⟩ := GI.all hu h0 k (by omega)
    obtain ⟨g1, g2⟩ := h1.row hu (i := k) (by omega) n (Nat.le_refl _)
    unfold gP at g1 g2 h1 h2 ⊢
    rw [List.range_succ, List.foldl_append]
    refine ⟨g1, fun z i j hi hj => ?_⟩
    obtain ⟨z1, z2⟩ := g2 z
    by_cases e : i = k
    · subst e; exact z2 j hj
    · exact h2 z1 i j (by omega) hj
def bLF1 : List Sx := [.ifS (.cmp .Gt (.idx (.var 2) (.var 5)) (.bin .Add (.idx (.var 2) (.var 4)) (.idx (.idx (.var 0) (.var 4)) (.var 5)))) [.parS [.c 2 (.var 5), .n 3] [.bin .Add (.idx (.var 2) (.var 4)) (.idx (.idx (.var 0) (.var 4)) (.var 5)), .bl true]] []]
def bLF2 : List Sx := [.forS (.n 5) .range (.fz []) [.blt .len [.var 1]] bLF1]
def bLF3 : List Sx := [.set 3 (.fz []) (.bl false), .forS (.n 4) .range (.fz []) [.blt .len [.var 1]] bLF2]
def b_law_floor : List Sx := [.par [⟨2, .l, (.fz []), (.blt .list [.var 1])⟩, ⟨3, .fr, (.fz []), (.bl true)⟩], .whileS 4000 (.var 3) [.set 3 (.fz []) (.bl false), .forS (.n 4) .range (.fz []) [.blt .len [.var 1]] [.forS (.n 5) .range (.fz []) [.blt .len [.var 1]] [.ifS (.cmp .Gt (.idx (.var 2) (.var 5)) (.bin .Add (.idx (.var 2) (.var 4)) (.idx (.idx (.var 0) (.var 4)) (.var 5)))) [.parS [.c 2 (.var 5), .n 3] [.bin .Add (.idx (.var 2) (.var 4)) (.idx (.idx (.var 0) (.var 4)) (.var 5)), .bl true]] []]]], .ret (.blt .tuple [.var 2])]
theorem law_floor_eq : b_law_floor = [.par [⟨2, .l, (.fz []), (.blt .list [.var 1])⟩, ⟨3, .fr, (.fz []), (.bl true)⟩], .whileS 4000 (.var 3) bLF3, .ret (.blt .tuple [.var 2])] := rfl
theorem lf1_step (F : Orc) {n : Nat} {f h} {i j : Nat} (hi : i < n) (hj : j < n) (t : (Nat → Int) × Bool) :
    JS F bLF1 [.fr (tblL n f), .fr (rowT n h), .l (rowD n t.1), .fr (.bl t.2), .fr (.int (i : Int)), .fr (.int (j : Int))] none (.nx [.fr (tblL n f), .fr (rowT n h), .l (rowD n (gS f i t j).1), .fr (.bl (gS f i t j).2), .fr (.int (i : Int)), .fr (.int (j : Int))] none) := by
  unfold bLF1 gS
  refine jst_if (t := decide (t.1 i + f i j < t.1 j)) (w1 := none) ?_ (fun c => ?_) (fun c => ?_)
  · repeat' (first | exact jev_var rfl | exact jev_int | exact jev_glo | exact jev_bl | exact jev_non | exact jev_str | apply jev_bin | apply jev_cmp | apply jev_and | apply jev_or | apply jev_not | apply jev_idx | apply jev_chain | apply jev_chain3 | apply jev_iteI | apply jev_tup | apply jev_lst | apply jev_slice | apply jev_call | apply jev_blt | apply jev_isi2 | apply jev_isi | apply jev_neg | exact jea_nil | apply jea_cons | exact jeo_none | apply jeo_some | exact jec_none | apply jec_some | apply jev_compRA | apply jev_compR | apply jev_compPA | apply jev_compP | refine' jt rfl ?_ ?_ ?_ ?_ | refine' ju rfl ?_ ?_ | apply jem_0 | apply jem_pk | apply jem_al | apply jem_fz | apply jes_0 | apply jes_pk | apply jes_fz | apply jst_set | apply jst_new1 | apply jst_expr | apply jst_ret | apply jst_unp | exact jst_nil | apply jst_app | apply jst_par | exact jeps_nil | apply jeps_cons | apply jep_fr | apply jep_l | exact jep_d | intro _ | ((with_reducible apply nrmS); simp only [List.set_cons_zero, List.set_cons_succ]; exact rfl) | apply opD_add | apply opD_sub | apply cmpD_lt | apply cmpD_le | apply cmpD_gt | apply cmpD_ge | apply cmpD_eqI | apply cmpD_neI | (apply idx_rowT; first | assumption | omega) | (apply idx_tblL; first | assumption | omega) | (apply idx_row; first | assumption | omega) | exact rfl | assumption | (simp only [List.length_cons, List.length_nil, List.length_map, List.length_range]; omega))
  · rw [if_pos (of_decide_eq_true c)]
    refine jst_parS (ds := [.int (t.1 i + f i j), .bl true]) (w1 := none) (w2 := none) (jes_pk (jea_cons ?_ (jea_cons jev_bl jea_nil)) rfl) (sto_c (k := (j : Int)) (jem_pk (jev_var rfl) rfl) rfl (by rw [rowD_len]; exact ixN_nat hj) (sto_n (by simp) sto_nil)) ?_
    · repeat' (first | exact jev_var rfl | exact jev_int | exact jev_glo | exact jev_bl | exact jev_non | exact jev_str | apply jev_bin | apply jev_cmp | apply jev_and | apply jev_or | apply jev_not | apply jev_idx | apply jev_chain | apply jev_chain3 | apply jev_iteI | apply jev_tup | apply jev_lst | apply jev_slice | apply jev_call | apply jev_blt | apply jev_isi2 | apply jev_isi | apply jev_neg | exact jea_nil | apply jea_cons | exact jeo_none | apply jeo_some | exact jec_none | apply jec_some | apply jev_compRA | apply jev_compR | apply jev_compPA | apply jev_compP | refine' jt rfl ?_ ?_ ?_ ?_ | refine' ju rfl ?_ ?_ | apply jem_0 | apply jem_pk | apply jem_al | apply jem_fz | apply jes_0 | apply jes_pk | apply jes_fz | apply jst_set | apply jst_new1 | apply jst_expr | apply jst_ret | apply jst_unp | exact jst_nil | apply jst_app | apply jst_par | exact jeps_nil | apply jeps_cons | apply jep_fr | apply jep_l | exact jep_d | intro _ | ((with_reducible apply nrmS); simp only [List.set_cons_zero, List.set_cons_succ]; exact rfl) | apply opD_add | apply opD_sub | apply cmpD_lt | apply cmpD_le | apply cmpD_gt | apply cmpD_ge | apply cmpD_eqI | apply cmpD_neI | (apply idx_rowT; first | assumption | omega) | (apply idx_tblL; first | assumption | omega) | (apply idx_row; first | assumption | omega) | exact rfl | assumption | (simp only [List.length_cons, List.length_nil, List.length_map, List.length_range]; omega))
    · rw [rowD_set n t.1 (updF t.1 j (t.1 i + f i j)) (fun y hy => if_neg hy) (if_pos rfl)]
      exact jst_nil
  · rw [if_neg (of_decide_eq_false c)]
    exact jst_nil
theorem lf2_step (F : Orc) {n : Nat} (hn : n ≤ 8) {f h} {i : Nat} (hi : i < n) (t : (Nat → Int) × Bool) (x5 : Sl) :
    ∃ y5, JS F bLF2 [.fr (tblL n f), .fr (rowT n h), .l (rowD n t.1), .fr (.bl t.2), .fr (.int (i : Int)), x5] none (.nx [.fr (tblL n f), .fr (rowT n h), .l (rowD n ((List.range n).foldl (gS f i) t).1), .fr (.bl ((List.range n).foldl (gS f i) t).2), .fr (.int (i : Int)), y5] none) := by
  obtain ⟨s', w', e, y5, rfl, rfl⟩ := jl_rng (F := F) (tg := .n 5) (body := bLF1) n
    (fun k s w2 => ∃ y5, s = [.fr (tblL n f), .fr (rowT n h), .l (rowD n ((List.range k).foldl (gS f i) t).1), .fr (.bl ((List.range k).foldl (gS f i) t).2), .fr (.int (i : Int)), y5] ∧ w2 = none)
    (s := [.fr (tblL n f), .fr (rowT n h), .l (rowD n t.1), .fr (.bl t.2), .fr (.int (i : Int)), x5]) (w := none)
    ⟨_, rfl, rfl⟩
    (fun k s w2 hk ⟨y5, hs, hw⟩ => by
      subst hs hw
      rw [List.range_succ, List.foldl_append]
      exact ⟨_, _, _, rfl, lf1_step F hi hk _, _, rfl, rfl⟩)
  refine ⟨y5, ?_⟩
  unfold bLF2
  exact jst_for (jes_0 (jea_cons (jev_blt (jea_cons (jev_var rfl) jea_nil) (bltD_lenR n h)) jea_nil)) (rngI n (by omega)) e jst_nil
theorem lf3_step (F : Orc) {n : Nat} (hn : n ≤ 8) {f h} (x : Nat → Int) (x3 x4 x5 : Sl) :
    ∃ y4 y5, JS F bLF3 [.fr (tblL n f), .fr (rowT n h), .l (rowD n x), x3, x4, x5] none (.nx [.fr (tblL n f), .fr (rowT n h), .l (rowD n (gP n f x n).1), .fr (.bl (gP n f x n).2), y4, y5] none) := by
  obtain ⟨s', w', e, y4, y5, rfl, rfl⟩ := jl_rng (F := F) (tg := .n 4) (body := bLF2) n
    (fun k s w2 => ∃ y4 y5, s = [.fr (tblL n f), .fr (rowT n h), .l (rowD n (gP n f x k).1), .fr (.bl (gP n f x k).2), y4, y5] ∧ w2 = none)
    (s := [.fr (tblL n f), .fr (rowT n h), .l (rowD n x), .fr (.bl false), x4, x5]) (w := none)
    ⟨_, _, rfl, rfl⟩
    (fun k s w2 hk ⟨y4, y5, hs, hw⟩ => by
      subst hs hw
      obtain ⟨z5, e⟩ := lf2_step F hn (f := f) (h := h) hk (gP n f x k) y5
      have ek : gP n f x (k + 1) = (List.range n).foldl (gS f k) (gP n f x k) := by
        unfold gP
        rw [List.range_succ, List.foldl_append]
        rfl
      rw [ek]
      exact ⟨_, _, _, rfl, e, _, _, rfl, rfl⟩)
  refine ⟨y4, y5, ?_⟩
  unfold bLF3
  refine jst_set (w1 := none) (jem_0 jev_bl) rfl ?_
  exact jst_for (jes_0 (jea_cons (jev_blt (jea_cons (jev_var rfl) jea_nil) (bltD_lenR n h)) jea_nil)) (rngI n (by omega)) e jst_nil
theorem lf_while (F : Orc) {n : Nat} (hn : n ≤ 8) {f h} {u : Nat → Int} (hu : ∀ i j, i < n → j < n → u j ≤ u i + f i j) : ∀ (fu : Nat) (x : Nat → Int) (x4 x5 : Sl), (∀ i, i < n → u i ≤ x i) → sumN n x - sumN n u < (fu : Int) →
    ∃ (y : Nat → Int) (y4 y5 : Sl), (∀ i, i < n → y i ≤ x i ∧ u i ≤ y i) ∧ (∀ i j, i < n → j < n → y j ≤ y i + f i j) ∧ JW F (fu + 1) (.var 3) bLF3 [.fr (tblL n f), .fr (rowT n h), .l (rowD n x), .fr (.bl true), x4, x5] none (.nx [.fr (tblL n f), .fr (rowT n h), .l (rowD n y), .fr (.bl false), y4, y5] none)
  | 0, x, x4, x5, h0, hs => by
    have := sumN_le (n := n) h0
    omega
  | fu + 1, x, x4, x5, h0, hs => by
    obtain ⟨z4, z5, e⟩ := lf3_step F hn (f := f) (h := h) x (.fr (.bl true)) x4 x5
    obtain ⟨I, c0⟩ := GI.all hu h0 n (Nat.le_refl _)
    have e1 : JM F (.var 3) .pk [.fr (tblL n f), .fr (rowT n h), .l (rowD n x), .fr (.bl true), x4, x5] none (.bl true) [.fr (tblL n f), .fr (rowT n h), .l (rowD n x), .fr (.bl true), x4, x5] none := jem_pk (jev_var rfl) rfl
    cases q : (gP n f x n).2 with
    | false =>
      rw [q, I.eq q] at e
      refine ⟨x, z4, z5, fun i hi => ⟨Int.le_refl _, h0 i hi⟩, fun i j hi hj => c0 q i j hi hj, jw_step e1 e (jw_done (jem_pk (jev_var rfl) rfl))⟩
    | true =>
      rw [q] at e
      have := I.ch q
      obtain ⟨y, y4, y5, g1, g2, g3⟩ := lf_while F hn (h := h) hu fu (gP n f x n).1 z4 z5 I.up (by omega)
      exact ⟨y, y4, y5, fun i hi => ⟨Int.le_trans (g1 i hi).1 (I.lo i hi), (g1 i hi).2⟩, g2, jw_step e1 e g3⟩
def OkLawFloor (F : Orc) : Prop := ∀ n rods d h, NetOk n rods → IsDist n rods d → RowIn n 99 h → F "_law_floor" false [tblL n d, rowT n h] none = some (rowT n (floorF n d h), none)
theorem law_floor_run (F : Orc) {n rods d h} (N : NetOk n rods) (Di : IsDist n rods d) (R : RowIn n 99 h) : (rss F b_law_floor [.fr (tblL n d), .fr (rowT n h), .un, .un, .un, .un] none).bind resD = some (rowT n (floorF n d h), none) := by
  have hn := N.hi
  have n1 := N.lo
  have S := floor_slope (h := h) n1 N.p1 Di
  have s1 : sumN n h ≤ 792 := by
    have := sumN_le (n := n) (x := h) (y := fun _ => 99) fun i hi => (R i hi).2
    have e : ∀ k, sumN k (fun _ => (99 : Int)) = 99 * k := fun k => by
      induction k with
      | zero => rfl
      | succ k ih => rw [sumN_succ, ih]; omega
    rw [e] at this
    omega
  have s2 : 0 ≤ sumN n (floorF n d h) := by
    have := sumN_le (n := n) (x := fun _ => 0) (y := floorF n d h) fun i hi => (floor_in n1 N.p1 Di R hi).1
    have e : ∀ k, sumN k (fun _ => (0 : Int)) = 0 := fun k => by
      induction k with
      | zero => rfl
      | succ k ih => rw [sumN_succ, ih]; rfl
    rw [e] at this
    exact this
  obtain ⟨y, y4, y5, g1, g2, g3⟩ := lf_while F hn (f := d) (h := h) (u := floorF n d h) (fun i j hi hj => by have := S j i hj hi; have := Di.sy N.p1 hi hj; omega) 3999 h .un .un (fun i hi => floor_dn1 n1 N.p1 Di hi) (by omega)
  have ey : ∀ i, i < n → y i = floorF n d h i := fun p hp => by
    obtain ⟨i, hi, e⟩ := floor_at (d := d) (h := h) n1 p
    have := (g1 p hp).2
    have := (g1 i hi).1
    have := g2 i p hi hp
    omega
  apply jrun_rt
  rw [law_floor_eq]
  refine jst_par (w1 := none) (sls := [.l (rowD n h), .fr (.bl true)]) (jeps_cons (jep_l (jem_0 (jev_blt (jea_cons (jev_var rfl) jea_nil) rfl))) (jeps_cons (jep_fr (jem_0 jev_bl)) jeps_nil)) (by first | (simp only [List.set_cons_zero, List.set_cons_succ, setPs]; exact rfl) | exact rfl) ?_
  refine jst_while g3 ?_
  refine jst_ret (jev_blt (jea_cons (jev_var rfl) jea_nil) ?_)
  show some (D.tup (rowD n y)) = some (rowT n (floorF n d h))
  exact congrArg some (rowT_congr ey)
end Lt

set_option Elab.async false
set_option linter.all false
set_option maxRecDepth 100000
set_option maxHeartbeats 800000
/-! LtRs: plain Lean: gaps of a law, like light, drawn rows below a row. -/
namespace Lt
open PySem PySem.Spec PyProof.Rows L2
theorem gaps_pairs (n : Nat) (f : Nat → Nat → Int) (h : Nat → Int) : (pairsL n).filter (fun k => badB f h k.1 k.2) = gapsL n f h := by
  unfold pairsL gapsL
  rw [List.filter_flatMap]
  congr 1
  funext i
  unfold gapsAt
  rw [List.filter_map]
  rfl
theorem idx_rowL {n : Nat} (h : Nat → Int) {j : Nat} (hj : j < n) : idxD (.lst (rowD n h)) (.int (j : Int)) = some (.int (h j)) := idx_row n h hj
def OkLawGaps (F : Orc) : Prop := ∀ n f h, 1 ≤ n → n ≤ 8 → F "_law_gaps" false [tblL n f, rowT n h] none = some (.lst ((gapsL n f h).map pD), none)
def b_law_gaps : List Sx := [.ret (.comp [2] (.n 2) .plain [.call "_law_pairs" [.blt .len [.var 1]]] (some (.cmp .Gt (.blt .abs [.bin .Sub (.idx (.var 1) (.idx (.var 2) (.int 0))) (.idx (.var 1) (.idx (.var 2) (.int 1)))]) (.idx (.idx (.var 0) (.idx (.var 2) (.int 0))) (.idx (.var 2) (.int 1))))) (.var 2))]
theorem law_gaps_run (F : Orc) (h1 : OkLawPairs F) {n f h} (n1 : 1 ≤ n) (n8 : n ≤ 8) : (rss F b_law_gaps [.fr (tblL n f), .fr (rowT n h), .un] none).bind resD = some (.lst ((gapsL n f h).map pD), none) := by
  have pl := pairsL_len n n8
  apply jrun_rt
  rw [← gaps_pairs]
  unfold b_law_gaps
  refine jst_ret (jev_compP (l := pairsL n) (enc := pD) (p := fun k => badB f h k.1 k.2) (g := pD) (jev_call (jea_cons (jev_blt (jea_cons (jev_var rfl) jea_nil) (bltD_lenR n h)) jea_nil) (h1 n n8)) rfl (by omega) fun k hk => ?_)
  obtain ⟨k1, k2⟩ := pairsL_mem hk
  refine jt rfl (jec_some ?_) rfl (fun _ => jev_var rfl) rfl
  refine jev_cmp (x := .int (if h k.1 - h k.2 < 0 then -(h k.1 - h k.2) else h k.1 - h k.2)) (y := .int (f k.1 k.2)) (w1 := none) ?_ ?_ (cmpD_gt _ _)
  · refine jev_blt (jea_cons (jev_bin (jev_idx (jev_var rfl) (jev_idx (jev_var rfl) jev_int (idx_pD0 k)) (idx_rowT h k1)) (jev_idx (jev_var rfl) (jev_idx (jev_var rfl) jev_int (idx_pD1 k)) (idx_rowT h k2)) rfl) jea_nil) rfl
  · exact jev_idx (jev_idx (jev_var rfl) (jev_idx (jev_var rfl) jev_int (idx_pD0 k)) (idx_tblL f k1)) (jev_idx (jev_var rfl) jev_int (idx_pD1 k)) (idx_row n _ k2)
/-- the first gap, or None -/
theorem jev_gap0 {F : Orc} {ρ : Env} {w : Option W} {k n : Nat} {f : Nat → Nat → Int} {h : Nat → Int} (n8 : n ≤ 8) (hk : ρ[k]? = some (some (.lst ((gapsL n f h).map pD)))) : JE F (.ite (.cmp .NotEq (.var k) (.lst [])) (.idx (.var k) (.int 0)) (.non)) ρ w (gapD n f h) w := by
  have gl := gapsL_len n n8 f h
  have pn : Pn 2 (.lst ((gapsL n f h).map pD)) := .lst (fun x hx => by obtain ⟨k, _, rfl⟩ := List.mem_map.mp hx; exact pn_pD k) (by rw [List.length_map]; omega)
  have pn0 : Pn 2 (.lst []) := .lst (fun x hx => by cases hx) (by simp)
  have ec := pn.cmp_neD pn0 (by decide) (by decide)
  rw [gapD_is]
  cases e : gapsL n f h with
  | nil =>
    rw [e] at hk ec
    refine jev_ite_f (w1 := w) ((jev_cmp (jev_var hk) (jev_lst jea_nil (by simp)) ec).to ?_) jev_non
    exact congrArg (fun b => D.bl (!b)) (dec_t (p := D.lst (List.map pD []) = D.lst []) rfl)
  | cons a r =>
    rw [e] at hk ec
    refine jev_ite_t (w1 := w) ((jev_cmp (jev_var hk) (jev_lst jea_nil (by simp)) ec).to ?_) (jev_idx (jev_var hk) jev_int (show atI ((a :: r).map pD) ((0 : Nat) : Int) = _ from atI_nat rfl))
    exact congrArg (fun b => D.bl (!b)) (dec_n (p := D.lst (List.map pD (a :: r)) = D.lst []) (fun z => by injection z with z; cases z))
theorem cmp_gapsEq0 {n : Nat} {f : Nat → Nat → Int} {h : Nat → Int} (n8 : n ≤ 8) : cmpD .Eq (.lst ((gapsL n f h).map pD)) (.lst []) = some (dec (gapsL n f h = [])) := by
  have gl := gapsL_len n n8 f h
  have pn : Pn 2 (.lst ((gapsL n f h).map pD)) := .lst (fun x hx => by obtain ⟨k, _, rfl⟩ := List.mem_map.mp hx; exact pn_pD k) (by rw [List.length_map]; omega)
  have pn0 : Pn 2 (.lst []) := .lst (fun x hx => by cases hx) (by simp)
  rw [pn.cmp_eqD pn0 (by decide) (by decide)]
  congr 1
  rw [Bool.eq_iff_iff, dec_iff, dec_iff, D.lst.injEq, List.map_eq_nil_iff]
theorem gaps_nil {n : Nat} {f : Nat → Nat → Int} {h : Nat → Int} : gapsL n f h = [] ↔ gapD n f h = .non := by
  rw [gapD_is]
  cases gapsL n f h with
  | nil => exact ⟨fun _ => rfl, fun _ => rfl⟩
  | cons a r => exact ⟨(fun z => nomatch z), (fun z => nomatch z)⟩
def OkSameLight (F : Orc) : Prop := ∀ n rods d g h, NetOk n rods → IsDist n rods d → RowIn n 99 g → RowIn n 99 h → F "same_light" false [netD n rods, rowT n g, rowT n h] none = some (.bl (dec (∀ i, i < n → roofF n d g i = roofF n d h i)), none)
def b_same_light : List Sx := [.expr (.fz []) (.call "need_net" [.var 0]), .expr (.fz []) (.call "need_row" [.var 0, .var 1]), .expr (.fz []) (.call "need_row" [.var 0, .var 2]), .set 3 (.fz []) (.call "table_of" [.var 0]), .ret (.cmp .Eq (.call "roof_of" [.var 3, .var 1]) (.call "roof_of" [.var 3, .var 2]))]
theorem same_light_run (F : Orc) (h1 : OkNeedNet F) (h2 : OkNeedRow F) (h3 : OkTableOf F) (h4 : OkRoofOf F) {n rods d g h} (N : NetOk n rods) (Di : IsDist n rods d) (R : RowIn n 99 g) (S : RowIn n 99 h) :
    (rss F b_same_light [.fr (netD n rods), .fr (rowT n g), .fr (rowT n h), .un] none).bind resD = some (.bl (dec (∀ i, i < n → roofF n d g i = roofF n d h i)), none) := by
  have hn := N.hi
  have n1 := N.lo
  apply jrun_rt
  unfold b_same_light
  refine jst_expr (jem_0 (jev_call (jea_cons (jev_var rfl) jea_nil) (h1 _ _ N))) ?_
  refine jst_expr (jem_0 (jev_call (jea_cons (jev_var rfl) (jea_cons (jev_var rfl) jea_nil)) (h2 _ _ _ R))) ?_
  refine jst_expr (jem_0 (jev_call (jea_cons (jev_var rfl) (jea_cons (jev_var rfl) jea_nil)) (h2 _ _ _ S))) ?_
  refine jst_set (jem_0 (jev_call (jea_cons (jev_var rfl) jea_nil) (h3 _ _ _ N Di))) (by first | (simp only [List.set_cons_zero, List.set_cons_succ, setPs]; exact rfl) | exact rfl) ?_
  exact jst_ret (jev_cmp (jev_call (jea_cons (jev_var rfl) (jea_cons (jev_var rfl) jea_nil)) (h4 _ _ _ n1 hn)) (jev_call (jea_cons (jev_var rfl) (jea_cons (jev_var rfl) jea_nil)) (h4 _ _ _ n1 hn)) (cmp_rowEq hn))
/-! ### a row drawn below a row -/
theorem up_draw (F : Orc) (hD : OkDraw F) (k : Nat) (ρ : Env) (hk : k < ρ.length) : ∀ (l : List Int) (w : W), (∀ v ∈ l, 0 ≤ v ∧ v < 1000000) → 0 ≤ w.a → ∃ (gs : List Int) (w' : W), gs.length = l.length ∧ (∀ (i : Nat) (a : Int), l[i]? = some a → ∃ g, gs[i]? = some g ∧ 0 ≤ g ∧ g ≤ a) ∧ 0 ≤ w'.a ∧
    compL (turnF F [k] (.n k) none (.callR "_law_taken" [.bin .Add (.var k) (.int 1)]) ρ) (l.map D.int) (some w) = some (gs.map D.int, some w')
  | [], w, _, ha => ⟨[], w, rfl, fun k a e => by simp at e, ha, rfl⟩
  | a :: l, w, hl, ha => by
    obtain ⟨q1, q2⟩ := hl a List.mem_cons_self
    obtain ⟨t, w1, t1, a1, e1⟩ := hD w (a + 1) (by omega) (by omega) ha
    obtain ⟨gs, w2, l2, h2, a2, e2⟩ := up_draw F hD k ρ hk l w1 (fun v hv => hl v (List.mem_cons_of_mem _ hv)) a1
    have hb : bindT (.n k) (.int a) (wipeE ρ [k]) = some ((wipeE ρ [k]).set k (some (.int a))) := by
      unfold bindT
      rw [if_pos (by rw [show (wipeE ρ [k]).length = ρ.length by simp [wipeE]]; exact hk)]
    have hv : ((wipeE ρ [k]).set k (some (D.int a)))[k]? = some (some (.int a)) := List.getElem?_set_self (by simp [wipeE]; exact hk)
    have he : JE F (.callR "_law_taken" [.bin .Add (.var k) (.int 1)]) ((wipeE ρ [k]).set k (some (.int a))) (some w) (.int (t : Int)) (some w1) :=
      jev_callR (jea_cons (jev_bin (jev_var hv) jev_int rfl) jea_nil) (by simp) e1
    refine ⟨(t : Int) :: gs, w2, by simp [l2], fun i b eb => ?_, a2, ?_⟩
    · cases i with
      | zero => simp at eb; subst eb; exact ⟨_, rfl, by omega, by omega⟩
      | succ i => simpa using h2 i b (by simpa using eb)
    · rw [List.map_cons, compL]
      unfold turnF at e2 ⊢
      rw [hb, Option.bind_some, show evc F none ((wipeE ρ [k]).set k (some (.int a))) (some w) = some (true, some w) from ec_none, Option.bind_some]
      dsimp only
      rw [if_pos rfl, he.h, Option.map_some, Option.bind_some]
      dsimp only
      rw [e2]
      rfl
theorem up_ev (F : Orc) (hD : OkDraw F) {n : Nat} (hn : n ≤ 8) {h : Nat → Int} (R : RowIn n 99 h) (k v : Nat) (ρ : Env) (hk : k < ρ.length) (hv : ρ[v]? = some (some (rowT n h))) (w : W) (ha : 0 ≤ w.a) : ∃ (g : Nat → Int) (w' : W), (∀ i, i < n → 0 ≤ g i ∧ g i ≤ h i) ∧ 0 ≤ w'.a ∧
    JE F (.comp [k] (.n k) .plain [.var v] none (.callR "_law_taken" [.bin .Add (.var k) (.int 1)])) ρ (some w) (.lst (rowD n g)) (some w') := by
  obtain ⟨gs, w', l, f, a, e⟩ := up_draw F hD k ρ hk ((List.range n).map h) w (fun v hv => by
    obtain ⟨i, hi, rfl⟩ := List.mem_map.mp hv
    have := R i (List.mem_range.mp hi)
    omega) ha
  rw [List.length_map, List.length_range] at l
  have fg : ∀ i, i < n → ∃ g, gs[i]? = some g ∧ 0 ≤ g ∧ g ≤ h i := fun i hi => f i (h i) (by rw [List.getElem?_map, List.getElem?_range hi]; rfl)
  refine ⟨fun i => (gs[i]?).getD 0, w', fun i hi => ?_, a, ?_⟩
  · obtain ⟨g, e1, e2⟩ := fg i hi
    dsimp only
    rw [e1]
    exact e2
  · have et : gs.map D.int = rowD n fun i => (gs[i]?).getD 0 := by
      apply List.ext_getElem?
      intro i
      unfold rowD
      rw [List.getElem?_map, List.getElem?_map]
      by_cases c : i < n
      · have hi : i < gs.length := by omega
        rw [List.getElem?_range c, List.getElem?_eq_getElem hi]
        simp [List.getElem?_eq_getElem hi]
      · rw [List.getElem?_eq_none (by omega), List.getElem?_eq_none (by rw [List.length_range]; omega)]; rfl
    rw [et, List.map_map] at e
    exact ⟨comp_run (ds := [rowT n h]) (its := (List.range n).map fun i => D.int (h i)) (w0 := some w) (jea_cons (jev_var hv) jea_nil).h rfl e (by rw [rowD_len]; omega)⟩
end Lt

set_option Elab.async false
set_option linter.all false
set_option maxRecDepth 100000
set_option maxHeartbeats 1600000
/-! Ltk05: plain Lean: the law of roofs and floors. -/
namespace Lt
open PySem PySem.Spec PyProof.Rows L2
section
variable {n : Nat} {rods : List Rod} {d : Nat → Nat → Int} {g h : Nat → Int} (n1 : 1 ≤ n) (hp1 : ∀ r ∈ rods, 1 ≤ r.2.2) (Di : IsDist n rods d)
include n1
theorem roof_mx (p : Nat) : roofF n d (maxR g h) p = maxR (roofF n d g) (roofF n d h) p := by
  obtain ⟨i, hi, e⟩ := roof_at (d := d) (h := g) n1 p
  obtain ⟨j, hj, e2⟩ := roof_at (d := d) (h := h) n1 p
  have g1 := fun i hi => roof_ge (d := d) (h := g) n1 p (i := i) hi
  have h1 := fun i hi => roof_ge (d := d) (h := h) n1 p (i := i) hi
  have a1 := h1 i hi
  have a2 := g1 j hj
  unfold maxR
  refine roof_is n1 ?_ fun k hk => ?_
  · by_cases c : roofF n d h p > roofF n d g p
    · rw [if_pos c]; exact ⟨j, hj, by split <;> omega⟩
    · rw [if_neg c]; exact ⟨i, hi, by split <;> omega⟩
  · have := g1 k hk
    have := h1 k hk
    split <;> split <;> omega
include hp1 Di
/-- what is lit of the roof is lit of the row, and has its height -/
theorem lit_roof_at {p : Nat} (hp : p < n) (l : litB n d (roofF n d h) p = true) : h p = roofF n d h p := by
  obtain ⟨i, hi, e⟩ := roof_at (d := d) (h := h) n1 p
  by_cases c : i = p
  · subst c
    have := Di.z i hi
    omega
  · exfalso
    have h1 := litB_iff.mp l i hi
    rw [hid_f] at h1
    have := roof_up1 n1 hp1 Di (h := h) hi
    exact h1 ⟨c, by omega⟩
theorem lit_roof {m : Int} (R : ∀ i, i < n → h i ≤ m) {p : Nat} (hp : p < n) : litB n d (roofF n d h) p = litB n d h p := by
  rw [Bool.eq_iff_iff, litB_iff, litB_iff]
  constructor
  · intro l i hi
    have e := lit_roof_at n1 hp1 Di hp (litB_iff.mpr l)
    have h1 := l i hi
    have := roof_up1 n1 hp1 Di (h := h) hi
    rw [hid_f] at h1 ⊢
    rintro ⟨c, z⟩
    exact h1 ⟨c, by omega⟩
  · intro l i hi
    rw [hid_f]
    rintro ⟨c, z⟩
    obtain ⟨k, hk, e⟩ := roof_at (d := d) (h := h) n1 i
    have := roof_up1 n1 hp1 Di (h := h) hp
    have := Di.tr hp1 hk hi hp
    have h1 := l k hk
    rw [hid_f] at h1
    by_cases ck : k = p
    · subst ck
      have := Di.pos hp1 hi hp c
      have := Di.p k i hk hi
      have := Di.pos hp1 hk hi (fun z => c z.symm)
      omega
    · exact h1 ⟨ck, by omega⟩
theorem litL_roof {m : Int} (R : ∀ i, i < n → h i ≤ m) : litL n d (roofF n d h) = litL n d h :=
  List.filter_congr fun p hp => lit_roof n1 hp1 Di R (List.mem_range.mp hp)
end
def b_law_k05 : List Sx := [.set 2 (.fz []) (.callR "_law_net" [.int 8, .callR "_law_pick" [.lst [.int 1, .int 3, .int 9]]]), .par [⟨7, .fr, (.fz []), (.idx (.var 2) (.int 0))⟩, ⟨8, .fr, (.fz []), (.call "_law_far" [.var 2])⟩], .set 3 (.fz []) (.callR "_law_heights" [.var 7, .callR "_law_pick" [.lst [.int 2, .int 6, .int 20, .int 99]]]), .par [⟨9, .fr, (.fz []), (.call "_law_roof" [.var 8, .var 3])⟩, ⟨10, .fr, (.fz []), (.call "_law_floor" [.var 8, .var 3])⟩], .ifS (.not (.call "_law_alike" [.lst [.call "roof" [.var 2, .var 3], .call "floor" [.var 2, .var 3]], .lst [.var 9, .var 10]])) [.ret (.bl false)] [], .ifS (.cmp .NotEq (.comp [13] (.n 13) .plain [.call "_law_lit" [.var 8, .var 9]] (some (.cmp .NotEq (.idx (.var 3) (.var 13)) (.idx (.var 9) (.var 13)))) (.var 13)) (.lst [])) [.ret (.bl false)] [], .ifS (.cmp .NotEq (.call "lit" [.var 2, .var 9]) (.call "lit" [.var 2, .var 3])) [.ret (.bl false)] [], .set 4 (.fz []) (.call "_law_gaps" [.var 8, .var 3]), .ifS (.not (.call "_law_alike" [.call "slope_gap" [.var 2, .var 3], .ite (.cmp .NotEq (.var 4) (.lst [])) (.idx (.var 4) (.int 0)) (.non)])) [.ret (.bl false)] [], .ifS (.cmp .NotEq (.cmp .Eq (.var 4) (.lst [])) (.cmp .Eq (.var 9) (.var 3))) [.ret (.bl false)] [], .set 5 (.fz []) (.callR "_law_heights" [.var 7, .int 20]), .ifS (.cmp .Eq (.callR "_law_taken" [.int 2]) (.int 0)) [.set 11 (.fz []) (.call "_law_lit" [.var 8, .var 9]), .set 12 (.fz []) (.comp [14] (.n 14) .plain [.var 9] none (.callR "_law_taken" [.bin .Add (.var 14) (.int 1)])), .set 5 (.fz []) (.blt .tuple [.comp [15] (.n 15) .range [.var 7] none (.ite (.cmp .In (.var 15) (.var 11)) (.idx (.var 9) (.var 15)) (.idx (.var 12) (.var 15)))])] [], .ifS (.not (.call "_law_alike" [.call "same_light" [.var 2, .var 3, .var 5], .cmp .Eq (.var 9) (.call "_law_roof" [.var 8, .var 5])])) [.ret (.bl false)] [], .set 6 (.fz []) (.blt .tuple [.comp [13] (.n 13) .range [.var 7] none (.blt .max2 [.idx (.var 3) (.var 13), .idx (.var 5) (.var 13)])]), .ifS (.not (.call "_law_alike" [.call "higher" [.var 2, .var 3, .var 5], .var 6])) [.ret (.bl false)] [], .ret (.cmp .Eq (.call "roof" [.var 2, .var 6]) (.blt .tuple [.comp [16] (.n 16) .zipN [.var 9, .call "_law_roof" [.var 8, .var 5]] none (.blt .maxL [.var 16])]))]
theorem law_k05_run (F : Orc) (hD : OkDraw F) (hP : OkPickN F) (hN : OkNet F) (hH : OkHeights F) (hF : OkFar F) (hA : ∀ m, m ≤ 3 → OkAlike F m) (hL : OkLawLit F) (hG : OkLawGaps F) (hR : OkLawRoof F) (hFl : OkLawFloor F)
    (h1 : OkRoof F) (h2 : OkFloor F) (h3 : OkLit F) (h4 : OkSlopeGap F) (h5 : OkSameLight F) (h6 : OkHigher F)
    (w : W) (ha : 0 ≤ w.a) : ∃ w', rss F b_law_k05 (List.replicate 17 .un) (some w) = some (.rt (.bl true) w') := by
  obtain ⟨lim, w1, q1, a1, e1⟩ := hP w [1, 3, 9] (by simp) (by simp) ha
  have ql : 1 ≤ lim ∧ lim ≤ 9 := by simp at q1; omega
  obtain ⟨n, rods, w2, N, n8, _, a2, e2⟩ := hN w1 8 lim (by omega) (by omega) ql.1 ql.2 a1
  obtain ⟨d, Di⟩ := N.dist
  have n1 := N.lo
  obtain ⟨t1, w3, q3, a3, e3⟩ := hP w2 [2, 6, 20, 99] (by simp) (by simp) a2
  have qt1 : t1 ≤ 99 := by simp at q3; omega
  obtain ⟨g, w4, G0, a4, e4⟩ := hH w3 n t1 (by omega) (by omega) (by omega) a3
  have G : RowIn n 99 g := G0.ge (by omega)
  obtain ⟨h, w5, H0, a5, e5⟩ := hH w4 n 20 (by omega) (by omega) (by omega) a4
  have H : RowIn n 99 h := H0.ge (by omega)
  obtain ⟨t, w6, ht, a6, e6⟩ := hD w5 2 (by omega) (by omega) a5
  have RG : RowIn n 99 (roofF n d g) := fun i hi => roof_in n1 N.p1 Di G hi
  have RH : RowIn n 99 (roofF n d h) := fun i hi => roof_in n1 N.p1 Di H hi
  have FG : RowIn n 99 (floorF n d g) := fun i hi => floor_in n1 N.p1 Di G hi
  have gl := gapsL_len n n8 d g
  have ll := litL_len n d g
  have ll2 := litL_len n d (roofF n d g)
  have p1 : ∀ x : Nat → Int, Pl 1 (rowT n x) := fun x => pl_rowT n x (by omega)
  have p2 : Pl 2 (.lst [rowT n (roofF n d g), rowT n (floorF n d g)]) := .lst (fun x hx => by
    rcases List.mem_cons.mp hx with z | hx
    · rw [z]; exact p1 _
    · rw [List.mem_singleton.mp hx]; exact p1 _) (by simp)
  have pg : Pl 1 (gapD n d g) := by
    rw [gapD_is]
    cases gapsL n d g with
    | nil => exact .non _
    | cons a r => exact pl_pD a
  have k1 : (litL n d (roofF n d g)).filter (fun i => !decide (g i = roofF n d g i)) = [] := by
    rw [List.filter_eq_nil_iff]
    intro i hi
    obtain ⟨hi1, hi2⟩ := litL_mem.mp hi
    rw [lit_roof_at n1 N.p1 Di hi1 hi2]
    simp
  have k2 : litL n d (roofF n d g) = litL n d g := litL_roof n1 N.p1 Di (m := 99) fun i hi => (G i hi).2
  have k3 : (!(dec (gapsL n d g = []) == dec (∀ i, i < n → roofF n d g i = g i))) = false := by
    rw [beq_t]
    · rfl
    · rw [dec_iff, dec_iff, gaps_nil, gap_iff n1 N.p1 Di]
      constructor
      · exact fun S i hi => roof_of_slope n1 N.p1 Di S hi
      · intro z i j hi hj
        have := roof_slope (h := g) n1 N.p1 Di i j hi hj
        rw [z i hi, z j hj] at this
        exact this
  have k4 : ∀ h : Nat → Int, ∀ i, i < n → roofF n d (maxR g h) i = maxR (roofF n d g) (roofF n d h) i := fun h i _ => roof_mx n1 i
  by_cases c : t = 0
  · subst c
    obtain ⟨x, w7, X, a7, e7⟩ := up_ev F hD n8 RG 14 9 (vwS [.un, .un, .fr (netD n rods), .fr (rowT n g), .fr (.lst ((gapsL n d g).map pD)), .fr (rowT n h), .un, .fr (.int (n : Int)), .fr (tblL n d), .fr (rowT n (roofF n d g)), .fr (rowT n (floorF n d g)), .fr (plsL (litL n d (roofF n d g))), .un, .un, .un, .un, .un]) (by simp [vwS]) rfl w6 a6
    have Y : RowIn n 99 (fun i => if decide (i ∈ litL n d (roofF n d g)) = true then roofF n d g i else x i) := fun i hi => by
      have := RG i hi
      have := X i hi
      dsimp only
      split <;> omega
    have MX := mx_in G Y
    have RY : RowIn n 99 (roofF n d (fun i => if decide (i ∈ litL n d (roofF n d g)) = true then roofF n d g i else x i)) := fun i hi => roof_in n1 N.p1 Di Y hi
    refine ⟨some w7, JS.h ?_⟩
    show JS F _ [.un, .un, .un, .un, .un, .un, .un, .un, .un, .un, .un, .un, .un, .un, .un, .un, .un] _ _
    unfold b_law_k05
    repeat' (first | exact jev_var rfl | exact jev_int | exact jev_glo | exact jev_bl | exact jev_non | exact jev_str | apply jst_skipF | ((with_reducible apply okrow "_law_pick"); first | exact ⟨e1⟩ | exact ⟨e3⟩) | ((with_reducible apply okrow "_law_net"); first | exact ⟨e2⟩) | ((with_reducible apply okrow "_law_heights"); first | exact ⟨e4⟩ | exact ⟨e5⟩) | ((with_reducible apply okrow "_law_taken"); first | exact ⟨e6⟩) | exact e7 | ((with_reducible apply okcall "_law_far"); exact ⟨hF _ _ _ N Di⟩) | ((with_reducible apply okcall "_law_roof"); exact ⟨hR _ _ _ _ N Di (by assumption)⟩) | ((with_reducible apply okcall "_law_floor"); exact ⟨hFl _ _ _ _ N Di (by assumption)⟩) | ((with_reducible apply okcall "roof"); exact ⟨h1 _ _ _ _ N Di (by assumption)⟩) | ((with_reducible apply okcall "floor"); exact ⟨h2 _ _ _ _ N Di (by assumption)⟩) | ((with_reducible apply okcall "_law_alike"); exact ⟨hA 2 (by omega) _ p2⟩) | ((with_reducible apply okcall "_law_alike"); exact ⟨hA 1 (by omega) _ pg⟩) | ((with_reducible apply okcall "_law_alike"); exact ⟨hA 1 (by omega) _ (p1 _)⟩) | ((with_reducible apply okcall "_law_alike"); exact ⟨hA 0 (by omega) _ (.bl _ _)⟩) | ((with_reducible apply okcall "_law_lit"); exact ⟨hL _ _ _ n8⟩) | ((with_reducible apply okcall "lit"); exact ⟨h3 _ _ _ _ N Di (by assumption)⟩) | ((with_reducible apply okcall "_law_gaps"); exact ⟨hG _ _ _ n1 n8⟩) | ((with_reducible apply okcall "slope_gap"); exact ⟨h4 _ _ _ _ N Di (by assumption)⟩) | exact jev_gap0 n8 rfl | ((with_reducible apply okcall "same_light"); exact ⟨h5 _ _ _ _ _ N Di (by assumption) (by assumption)⟩) | ((with_reducible apply okcall "higher"); exact ⟨h6 _ _ _ _ N (by assumption) (by assumption)⟩) | apply jev_zmax | exact cmp_gapsEq0 n8 | exact idx_rowT _ (litL_lt _ (by assumption)) | apply jst_on | apply jst_retB | apply jev_bin | apply jev_cmp | apply jev_and | apply jev_or | apply jev_not | apply jev_idx | apply jev_chain | apply jev_chain3 | apply jev_iteI | apply jev_tup | apply jev_lst | apply jev_slice | apply jev_call | apply jev_blt | apply jev_isi2 | apply jev_isi | apply jev_neg | exact jea_nil | apply jea_cons | exact jeo_none | apply jeo_some | exact jec_none | apply jec_some | apply jev_compRA | apply jev_compR | apply jev_compPA | apply jev_compP | refine' jt rfl ?_ ?_ ?_ ?_ | refine' ju rfl ?_ ?_ | apply jem_0 | apply jem_pk | apply jem_al | apply jem_fz | apply jes_0 | apply jes_pk | apply jes_fz | apply jst_set | apply jst_new1 | apply jst_expr | apply jst_ret | apply jst_unp | exact jst_nil | apply jst_app | apply jst_par | exact jeps_nil | apply jeps_cons | apply jep_fr | apply jep_l | exact jep_d | exact Nat.le_of_ble_eq_true rfl | exact lt6 (by omega) | (refine cmpD_neNil _ ?_) | (refine cmpD_nil _ ?_) | exact flt_lt (by omega) | exact fltl_lt (by omega) | exact cmp_blEq _ _ | exact cmp_blNe _ _ | apply jst_skip | apply jev_callR | exact someNe _ | ((with_reducible apply nrmP); simp only [setPs, List.set_cons_zero, List.set_cons_succ]; exact rfl) | exact cmp_rowEq (by omega) | exact cmp_rowNe (by omega) | exact cmp_plsEq (by omega) (by omega) | exact cmp_plsNe (by omega) (by omega) | exact cmp_gapIs _ _ _ | exact cmp_gapIsnt _ _ _ | exact cmpD_ninT _ _ | exact cmpD_ninL _ _ | exact cmpD_inT _ _ | exact cmpD_inL _ _ | exact seq_row _ _ | exact seq_pls _ | intro _ | ((with_reducible apply nrmS); simp only [List.set_cons_zero, List.set_cons_succ]; exact rfl) | apply opD_add | apply opD_sub | apply cmpD_lt | apply cmpD_le | apply cmpD_gt | apply cmpD_ge | apply cmpD_eqI | apply cmpD_neI | (apply idx_rowT; first | assumption | omega) | (apply idx_tblL; first | assumption | omega) | (apply idx_row; first | assumption | omega) | exact rfl | assumption | (simp only [List.length_cons, List.length_nil, List.length_map, List.length_range]; omega))
    · exact nde_f k1
    · exact nd_f k2
    · exact dec_t (k4 _)
  · have MX := mx_in G H
    refine ⟨some w6, JS.h ?_⟩
    show JS F _ [.un, .un, .un, .un, .un, .un, .un, .un, .un, .un, .un, .un, .un, .un, .un, .un, .un] _ _
    unfold b_law_k05
    repeat' (first | exact jev_var rfl | exact jev_int | exact jev_glo | exact jev_bl | exact jev_non | exact jev_str | apply jst_skipF | ((with_reducible apply okrow "_law_pick"); first | exact ⟨e1⟩ | exact ⟨e3⟩) | ((with_reducible apply okrow "_law_net"); first | exact ⟨e2⟩) | ((with_reducible apply okrow "_law_heights"); first | exact ⟨e4⟩ | exact ⟨e5⟩) | ((with_reducible apply okrow "_law_taken"); first | exact ⟨e6⟩) | ((with_reducible apply okcall "_law_far"); exact ⟨hF _ _ _ N Di⟩) | ((with_reducible apply okcall "_law_roof"); exact ⟨hR _ _ _ _ N Di (by assumption)⟩) | ((with_reducible apply okcall "_law_floor"); exact ⟨hFl _ _ _ _ N Di (by assumption)⟩) | ((with_reducible apply okcall "roof"); exact ⟨h1 _ _ _ _ N Di (by assumption)⟩) | ((with_reducible apply okcall "floor"); exact ⟨h2 _ _ _ _ N Di (by assumption)⟩) | ((with_reducible apply okcall "_law_alike"); exact ⟨hA 2 (by omega) _ p2⟩) | ((with_reducible apply okcall "_law_alike"); exact ⟨hA 1 (by omega) _ pg⟩) | ((with_reducible apply okcall "_law_alike"); exact ⟨hA 1 (by omega) _ (p1 _)⟩) | ((with_reducible apply okcall "_law_alike"); exact ⟨hA 0 (by omega) _ (.bl _ _)⟩) | ((with_reducible apply okcall "_law_lit"); exact ⟨hL _ _ _ n8⟩) | ((with_reducible apply okcall "lit"); exact ⟨h3 _ _ _ _ N Di (by assumption)⟩) | ((with_reducible apply okcall "_law_gaps"); exact ⟨hG _ _ _ n1 n8⟩) | ((with_reducible apply okcall "slope_gap"); exact ⟨h4 _ _ _ _ N Di (by assumption)⟩) | exact jev_gap0 n8 rfl | ((with_reducible apply okcall "same_light"); exact ⟨h5 _ _ _ _ _ N Di (by assumption) (by assumption)⟩) | ((with_reducible apply okcall "higher"); exact ⟨h6 _ _ _ _ N (by assumption) (by assumption)⟩) | apply jev_zmax | exact cmp_gapsEq0 n8 | exact idx_rowT _ (litL_lt _ (by assumption)) | apply jst_off | apply jst_retB | apply jev_bin | apply jev_cmp | apply jev_and | apply jev_or | apply jev_not | apply jev_idx | apply jev_chain | apply jev_chain3 | apply jev_iteI | apply jev_tup | apply jev_lst | apply jev_slice | apply jev_call | apply jev_blt | apply jev_isi2 | apply jev_isi | apply jev_neg | exact jea_nil | apply jea_cons | exact jeo_none | apply jeo_some | exact jec_none | apply jec_some | apply jev_compRA | apply jev_compR | apply jev_compPA | apply jev_compP | refine' jt rfl ?_ ?_ ?_ ?_ | refine' ju rfl ?_ ?_ | apply jem_0 | apply jem_pk | apply jem_al | apply jem_fz | apply jes_0 | apply jes_pk | apply jes_fz | apply jst_set | apply jst_new1 | apply jst_expr | apply jst_ret | apply jst_unp | exact jst_nil | apply jst_app | apply jst_par | exact jeps_nil | apply jeps_cons | apply jep_fr | apply jep_l | exact jep_d | exact Nat.le_of_ble_eq_true rfl | exact lt6 (by omega) | (refine cmpD_neNil _ ?_) | (refine cmpD_nil _ ?_) | exact flt_lt (by omega) | exact fltl_lt (by omega) | exact cmp_blEq _ _ | exact cmp_blNe _ _ | apply jst_skip | apply jev_callR | exact someNe _ | ((with_reducible apply nrmP); simp only [setPs, List.set_cons_zero, List.set_cons_succ]; exact rfl) | exact cmp_rowEq (by omega) | exact cmp_rowNe (by omega) | exact cmp_plsEq (by omega) (by omega) | exact cmp_plsNe (by omega) (by omega) | exact cmp_gapIs _ _ _ | exact cmp_gapIsnt _ _ _ | exact cmpD_ninT _ _ | exact cmpD_ninL _ _ | exact cmpD_inT _ _ | exact cmpD_inL _ _ | exact seq_row _ _ | exact seq_pls _ | intro _ | ((with_reducible apply nrmS); simp only [List.set_cons_zero, List.set_cons_succ]; exact rfl) | apply opD_add | apply opD_sub | apply cmpD_lt | apply cmpD_le | apply cmpD_gt | apply cmpD_ge | apply cmpD_eqI | apply cmpD_neI | (apply idx_rowT; first | assumption | omega) | (apply idx_tblL; first | assumption | omega) | (apply idx_row; first | assumption | omega) | exact rfl | assumption | (simp only [List.length_cons, List.length_nil, List.length_map, List.length_range]; omega))
    · exact nde_f k1
    · exact nd_f k2
    · exact decide_eq_false (by omega)
    · exact dec_t (k4 _)
end Lt

set_option Elab.async false
set_option linter.all false
set_option maxRecDepth 100000
set_option maxHeartbeats 0
namespace Lw
open PySem PySem.Spec PyProof.Rows L2 Lt
def top (i : Nat) : Stmt := PySem.Challenge.pw_littowers_k05_whole_roofs.main.body.getD i (.Pass ⟨0, 0, 0, 0⟩)
def d_law_taken : He.DefD := ⟨("_law_taken", none), "_law_taken", "_law_taken", defArgs (top 31), defBody (top 31), defScope (top 31), [], []⟩
def b_law_taken : List Sx := [.ifS (.cmp .Gt (.rowGet 3) (.int 0)) [.set 3 (.fz []) (.bin .Mod (.blt .int [.rowGet 3]) (.var 1)), .rowSet 3 (.bin .FloorDiv (.rowGet 3) (.var 1)), .ret (.var 3)] [], .rowSet 1 (.bin .Add (.rowGet 1) (.int 1)), .ifS (.cmp .Gt (.rowGet 1) (.rowLen)) [.rowSet 2 (.bin .Mod (.blt .int [.bin .Add (.bin .Mult (.rowGet 2) (.int 48271)) (.int 11)]) (.int 2147483647)), .ret (.bin .Mod (.blt .int [.bin .FloorDiv (.rowGet 2) (.int 7)]) (.var 1))] [], .set 2 (.fz []) (.rowCell (.bin .Sub (.rowGet 1) (.int 1))), .rowSet 2 (.bin .Mod (.blt .int [.bin .Add (.bin .Add (.bin .Mult (.rowGet 2) (.int 48271)) (.var 2)) (.int 11)]) (.int 2147483647)), .ifS (.cmp .GtE (.var 2) (.bin .Pow (.int 10) (.int 18))) [.rowSet 3 (.bin .FloorDiv (.var 2) (.var 1))] [], .ret (.bin .Mod (.blt .int [.var 2]) (.var 1))]
def f_law_taken : Fn := ⟨d_law_taken, "_law_taken", ["_law_row", "_law_many"], true, ["_law_row", "_law_many", "_law_cell", "_law_found"], b_law_taken⟩
def d_law_net : He.DefD := ⟨("_law_net", none), "_law_net", "_law_net", defArgs (top 32), defBody (top 32), defScope (top 32), [], []⟩
def b_law_net : List Sx := [.par [⟨5, .fr, (.fz []), (.bin .Add (.int 1) (.callR "_law_taken" [.var 1]))⟩, ⟨6, .d, .pk, .never⟩], .forS (.n 3) .range (.fz []) [.int 1, .var 5] [.putD 6 (.bin .Add (.int 1) (.callR "_law_taken" [.var 2])) (.tup [.callR "_law_taken" [.var 3], .var 3])], .forS (.n 4) .range (.fz []) [.ite (.cmp .Gt (.var 5) (.int 2)) (.callR "_law_taken" [.int 4]) (.int 0)] [.par [⟨7, .fr, (.fz []), (.callR "_law_taken" [.var 5])⟩, ⟨8, .fr, (.fz []), (.callR "_law_taken" [.var 5])⟩], .ifS (.cmp .NotEq (.var 7) (.var 8)) [.putD 6 (.bin .Add (.int 1) (.callR "_law_taken" [.var 2])) (.tup [.blt .min2 [.var 7, .var 8], .blt .max2 [.var 7, .var 8]])] []], .ret (.tup [.var 5, .blt .tuple [.comp [7, 8] (.t [.n 7, .n 8]) .plain [.blt .sorted [.var 6]] none (.tup [.var 7, .var 8, .idx (.var 6) (.tup [.var 7, .var 8])])]])]
def f_law_net : Fn := ⟨d_law_net, "_law_net", ["_law_row", "_law_most", "_law_long"], true, ["_law_row", "_law_most", "_law_long", "_law_place", "_law_turn", "_law_many", "_law_rods", "_law_one", "_law_other"], b_law_net⟩
def d_law_pick : He.DefD := ⟨("_law_pick", none), "_law_pick", "_law_pick", defArgs (top 33), defBody (top 33), defScope (top 33), [], []⟩
def b_law_pick : List Sx := [.ret (.idx (.var 1) (.callR "_law_taken" [.blt .len [.var 1]]))]
def f_law_pick : Fn := ⟨d_law_pick, "_law_pick", ["_law_row", "_law_things"], true, ["_law_row", "_law_things"], b_law_pick⟩
def d_law_far : He.DefD := ⟨("_law_far", none), "_law_far", "_law_far", defArgs (top 34), defBody (top 34), defScope (top 34), [], []⟩
def b_law_far : List Sx := [.set 1 (.fz []) (.idx (.var 0) (.int 0)), .new2 2 (.fz []) (.comp [4] (.n 4) .range [.var 1] none (.comp [5] (.n 5) .range [.var 1] none (.ite (.cmp .Eq (.var 4) (.var 5)) (.int 0) (.int 999)))), .forS (.n 3) .range (.fz []) [.var 1] [.forS (.t [.n 4, .n 5, .n 6]) .plain (.fz []) [.idx (.var 0) (.int 1)] [.forS (.n 7) .range (.fz []) [.var 1] [.put2 2 (.blt .min2 [.idx (.idx (.var 2) (.var 7)) (.var 4), .bin .Add (.idx (.idx (.var 2) (.var 7)) (.var 5)) (.var 6)]) (.var 7) (.var 4), .put2 2 (.blt .min2 [.idx (.idx (.var 2) (.var 7)) (.var 5), .bin .Add (.idx (.idx (.var 2) (.var 7)) (.var 4)) (.var 6)]) (.var 7) (.var 5)]]], .ret (.var 2)]
def f_law_far : Fn := ⟨d_law_far, "_law_far", ["_law_net_here"], false, ["_law_net_here", "_law_many", "_law_found", "_law_turn", "_law_one", "_law_other", "_law_length", "_law_place"], b_law_far⟩
def d_law_heights : He.DefD := ⟨("_law_heights", none), "_law_heights", "_law_heights", defArgs (top 35), defBody (top 35), defScope (top 35), [], []⟩
def b_law_heights : List Sx := [.ret (.blt .tuple [.comp [3] (.n 3) .range [.var 1] none (.callR "_law_taken" [.bin .Add (.var 2) (.int 1)])])]
def f_law_heights : Fn := ⟨d_law_heights, "_law_heights", ["_law_row", "_law_many", "_law_most"], true, ["_law_row", "_law_many", "_law_most", "_law_place"], b_law_heights⟩
def d_law_roof : He.DefD := ⟨("_law_roof", none), "_law_roof", "_law_roof", defArgs (top 36), defBody (top 36), defScope (top 36), [], []⟩
def b_law_roof : List Sx := [.par [⟨2, .l, (.fz []), (.blt .list [.var 1])⟩, ⟨3, .fr, (.fz []), (.bl true)⟩], .whileS 4000 (.var 3) [.set 3 (.fz []) (.bl false), .forS (.n 4) .range (.fz []) [.blt .len [.var 1]] [.forS (.n 5) .range (.fz []) [.blt .len [.var 1]] [.ifS (.cmp .Lt (.idx (.var 2) (.var 5)) (.bin .Sub (.idx (.var 2) (.var 4)) (.idx (.idx (.var 0) (.var 4)) (.var 5)))) [.parS [.c 2 (.var 5), .n 3] [.bin .Sub (.idx (.var 2) (.var 4)) (.idx (.idx (.var 0) (.var 4)) (.var 5)), .bl true]] []]]], .ret (.blt .tuple [.var 2])]
def f_law_roof : Fn := ⟨d_law_roof, "_law_roof", ["_law_far_here", "_law_row"], false, ["_law_far_here", "_law_row", "_law_found", "_law_changed", "_law_one", "_law_other"], b_law_roof⟩
def d_law_floor : He.DefD := ⟨("_law_floor", none), "_law_floor", "_law_floor", defArgs (top 37), defBody (top 37), defScope (top 37), [], []⟩
def b_law_floor : List Sx := [.par [⟨2, .l, (.fz []), (.blt .list [.var 1])⟩, ⟨3, .fr, (.fz []), (.bl true)⟩], .whileS 4000 (.var 3) [.set 3 (.fz []) (.bl false), .forS (.n 4) .range (.fz []) [.blt .len [.var 1]] [.forS (.n 5) .range (.fz []) [.blt .len [.var 1]] [.ifS (.cmp .Gt (.idx (.var 2) (.var 5)) (.bin .Add (.idx (.var 2) (.var 4)) (.idx (.idx (.var 0) (.var 4)) (.var 5)))) [.parS [.c 2 (.var 5), .n 3] [.bin .Add (.idx (.var 2) (.var 4)) (.idx (.idx (.var 0) (.var 4)) (.var 5)), .bl true]] []]]], .ret (.blt .tuple [.var 2])]
def f_law_floor : Fn := ⟨d_law_floor, "_law_floor", ["_law_far_here", "_law_row"], false, ["_law_far_here", "_law_row", "_law_found", "_law_changed", "_law_one", "_law_other"], b_law_floor⟩
def d_law_alike : He.DefD := ⟨("_law_alike", none), "_law_alike", "_law_alike", defArgs (top 38), defBody (top 38), defScope (top 38), [], []⟩
def b_law_alike : List Sx := [.ifS (.isi2 (.var 1) .tuple .list) [.ifS (.or (.not (.isi2 (.var 0) .tuple .list)) (.cmp .NotEq (.isi (.var 0) .list) (.isi (.var 1) .list))) [.ret (.bl false)] [], .ifS (.cmp .NotEq (.blt .len [.var 0]) (.blt .len [.var 1])) [.ret (.bl false)] [], .ret (.cmp .Eq (.comp [2] (.n 2) .range [.blt .len [.var 1]] (some (.not (.call "_law_alike" [.idx (.var 0) (.var 2), .idx (.var 1) (.var 2)]))) (.var 2)) (.lst []))] [], .ifS (.or (.cmp .Is (.var 1) (.non)) (.isi (.var 1) .str)) [.ret (.and (.cmp .Eq (.var 0) (.var 1)) (.cmp .Eq (.isi (.var 0) .str) (.isi (.var 1) .str)))] [], .ret (.and (.isi (.var 0) .int) (.and (.cmp .Eq (.isi (.var 0) .bool) (.isi (.var 1) .bool)) (.cmp .Eq (.var 0) (.var 1))))]
def f_law_alike : Fn := ⟨d_law_alike, "_law_alike", ["_law_found", "_law_due"], false, ["_law_found", "_law_due", "_law_k"], b_law_alike⟩
def d_roof_of : He.DefD := ⟨("roof_of", none), "roof_of", "roof_of", defArgs (top 20), defBody (top 20), defScope (top 20), [], []⟩
def b_roof_of : List Sx := [.set 2 (.fz []) (.blt .len [.var 1]), .ret (.blt .tuple [.comp [3] (.n 3) .range [.var 2] none (.blt .maxL [.comp [4] (.n 4) .range [.var 2] none (.bin .Sub (.idx (.var 1) (.var 4)) (.idx (.idx (.var 0) (.var 4)) (.var 3)))])])]
def f_roof_of : Fn := ⟨d_roof_of, "roof_of", ["table", "row"], false, ["table", "row", "many", "place", "one"], b_roof_of⟩
def d_tuple_of : He.DefD := ⟨("tuple_of", none), "tuple_of", "tuple_of", defArgs (top 10), defBody (top 10), defScope (top 10), [], []⟩
def b_tuple_of : List Sx := [.ret (.and (.isi (.var 0) .tuple) (.chain .LtE .LtE (.var 1) (.blt .len [.var 0]) (.var 2)))]
def f_tuple_of : Fn := ⟨d_tuple_of, "tuple_of", ["value", "low", "high"], false, ["value", "low", "high"], b_tuple_of⟩
def d_whole : He.DefD := ⟨("whole", none), "whole", "whole", defArgs (top 8), defBody (top 8), defScope (top 8), [], []⟩
def b_whole : List Sx := [.ret (.and (.isi (.var 0) .int) (.not (.isi (.var 0) .bool)))]
def f_whole : Fn := ⟨d_whole, "whole", ["value"], false, ["value"], b_whole⟩
def d_within : He.DefD := ⟨("within", none), "within", "within", defArgs (top 9), defBody (top 9), defScope (top 9), [], []⟩
def b_within : List Sx := [.ret (.and (.call "whole" [.var 0]) (.chain .LtE .LtE (.var 1) (.var 0) (.var 2)))]
def f_within : Fn := ⟨d_within, "within", ["value", "low", "high"], false, ["value", "low", "high"], b_within⟩
def d_is_rod : He.DefD := ⟨("is_rod", none), "is_rod", "is_rod", defArgs (top 11), defBody (top 11), defScope (top 11), [], []⟩
def b_is_rod : List Sx := [.ifS (.or (.not (.call "tuple_of" [.var 1, .int 3, .int 3])) (.not (.blt .all [.comp [2] (.n 2) .plain [.var 1] none (.call "whole" [.var 2])]))) [.ret (.bl false)] [], .ret (.and (.chain3 .LtE .Lt .Lt (.int 0) (.idx (.var 1) (.int 0)) (.idx (.var 1) (.int 1)) (.var 0)) (.chain .LtE .LtE (.int 1) (.idx (.var 1) (.int 2)) (.glo "MOST_LENGTH" 9)))]
def f_is_rod : Fn := ⟨d_is_rod, "is_rod", ["many", "value"], false, ["many", "value", "told"], b_is_rod⟩
def d_need_net : He.DefD := ⟨("need_net", none), "need_net", "need_net", defArgs (top 12), defBody (top 12), defScope (top 12), [], []⟩
def b_need_net : List Sx := [.ifS (.or (.not (.call "tuple_of" [.var 0, .int 2, .int 2])) (.or (.not (.call "within" [.idx (.var 0) (.int 0), .int 1, .glo "MOST_PLACES" 8])) (.not (.call "tuple_of" [.idx (.var 0) (.int 1), .int 0, .int 28])))) [.never] [], .unp (.t [.n 3, .n 4]) (.fz []) (.var 0), .forS (.t [.n 5, .n 6]) .enum (.fz []) [.var 4] [.ifS (.or (.not (.call "is_rod" [.var 3, .var 6])) (.and (.cmp .Gt (.var 5) (.int 0)) (.cmp .LtE (.slice (.var 6) none (some (.int 2))) (.slice (.idx (.var 4) (.bin .Sub (.var 5) (.int 1))) none (some (.int 2)))))) [.never] []], .new1 1 (.fz []) (.lst [.int 0]), .forS (.n 2) .range (.fz []) [.var 3] [.forS (.t [.n 7, .n 8, .n 9]) .plain (.fz []) [.var 4] [.ifS (.cmp .NotEq (.cmp .In (.var 7) (.var 1)) (.cmp .In (.var 8) (.var 1))) [.app 1 .pk (.ite (.cmp .In (.var 7) (.var 1)) (.var 8) (.var 7))] []]], .ifS (.cmp .Lt (.blt .len [.var 1]) (.var 3)) [.never] []]
def f_need_net : Fn := ⟨d_need_net, "need_net", ["value"], false, ["value", "seen", "turn", "many", "rods", "index", "rod", "one", "other", "length"], b_need_net⟩
def d_need_row : He.DefD := ⟨("need_row", none), "need_row", "need_row", defArgs (top 13), defBody (top 13), defScope (top 13), [], []⟩
def b_need_row : List Sx := [.ifS (.not (.call "tuple_of" [.var 1, .idx (.var 0) (.int 0), .idx (.var 0) (.int 0)])) [.never] [], .forS (.t [.n 2, .n 3]) .enum (.fz []) [.var 1] [.ifS (.not (.call "within" [.var 3, .int 0, .glo "MOST_HEIGHT" 99])) [.never] []]]
def f_need_row : Fn := ⟨d_need_row, "need_row", ["net", "row"], false, ["net", "row", "index", "height"], b_need_row⟩
def d_table_of : He.DefD := ⟨("table_of", none), "table_of", "table_of", defArgs (top 15), defBody (top 15), defScope (top 15), [], []⟩
def b_table_of : List Sx := [.unp (.t [.n 3, .n 4]) (.fz []) (.var 0), .new2 1 (.fz []) (.comp [5] (.n 5) .range [.var 3] none (.comp [6] (.n 6) .range [.var 3] none (.ite (.cmp .Eq (.var 5) (.var 6)) (.int 0) (.int 9999)))), .forS (.t [.n 5, .n 6, .n 7]) .plain (.fz []) [.var 4] [.put2 1 (.blt .min2 [.idx (.idx (.var 1) (.var 5)) (.var 6), .var 7]) (.var 5) (.var 6), .put2 1 (.idx (.idx (.var 1) (.var 5)) (.var 6)) (.var 6) (.var 5)], .forS (.n 2) .range (.fz []) [.var 3] [.forS (.n 5) .range (.fz []) [.var 3] [.forS (.n 6) .range (.fz []) [.var 3] [.put2 1 (.blt .min2 [.idx (.idx (.var 1) (.var 5)) (.var 6), .bin .Add (.idx (.idx (.var 1) (.var 5)) (.var 2)) (.idx (.idx (.var 1) (.var 2)) (.var 6))]) (.var 5) (.var 6)]]], .ret (.var 1)]
def f_table_of : Fn := ⟨d_table_of, "table_of", ["net"], false, ["net", "found", "middle", "many", "rods", "one", "other", "length"], b_table_of⟩
def d_need_both : He.DefD := ⟨("need_both", none), "need_both", "need_both", defArgs (top 17), defBody (top 17), defScope (top 17), [], []⟩
def b_need_both : List Sx := [.expr (.fz []) (.call "need_net" [.var 0]), .expr (.fz []) (.call "need_row" [.var 0, .var 1]), .ret (.call "table_of" [.var 0])]
def f_need_both : Fn := ⟨d_need_both, "need_both", ["net", "row"], false, ["net", "row"], b_need_both⟩
def d_roof : He.DefD := ⟨("roof", none), "roof", "roof", defArgs (top 21), defBody (top 21), defScope (top 21), [], []⟩
def b_roof : List Sx := [.ret (.call "roof_of" [.call "need_both" [.var 0, .var 1], .var 1])]
def f_roof : Fn := ⟨d_roof, "roof", ["net", "row"], false, ["net", "row"], b_roof⟩
def d_floor_of : He.DefD := ⟨("floor_of", none), "floor_of", "floor_of", defArgs (top 22), defBody (top 22), defScope (top 22), [], []⟩
def b_floor_of : List Sx := [.set 2 (.fz []) (.blt .len [.var 1]), .ret (.blt .tuple [.comp [3] (.n 3) .range [.var 2] none (.blt .minL [.comp [4] (.n 4) .range [.var 2] none (.bin .Add (.idx (.var 1) (.var 4)) (.idx (.idx (.var 0) (.var 4)) (.var 3)))])])]
def f_floor_of : Fn := ⟨d_floor_of, "floor_of", ["table", "row"], false, ["table", "row", "many", "place", "one"], b_floor_of⟩
def d_floor : He.DefD := ⟨("floor", none), "floor", "floor", defArgs (top 23), defBody (top 23), defScope (top 23), [], []⟩
def b_floor : List Sx := [.ret (.call "floor_of" [.call "need_both" [.var 0, .var 1], .var 1])]
def f_floor : Fn := ⟨d_floor, "floor", ["net", "row"], false, ["net", "row"], b_floor⟩
def d_law_lit : He.DefD := ⟨("_law_lit", none), "_law_lit", "_law_lit", defArgs (top 39), defBody (top 39), defScope (top 39), [], []⟩
def b_law_lit : List Sx := [.set 2 (.fz []) (.lst []), .forS (.n 3) .range (.fz []) [.blt .len [.var 1]] [.set 4 (.fz []) (.comp [5] (.n 5) .range [.blt .len [.var 1]] (some (.and (.cmp .NotEq (.var 5) (.var 3)) (.cmp .GtE (.bin .Sub (.idx (.var 1) (.var 5)) (.idx (.idx (.var 0) (.var 5)) (.var 3))) (.idx (.var 1) (.var 3))))) (.var 5)), .set 2 (.fz []) (.bin .Add (.var 2) (.ite (.cmp .Eq (.var 4) (.lst [])) (.lst [.var 3]) (.lst [])))], .ret (.var 2)]
def f_law_lit : Fn := ⟨d_law_lit, "_law_lit", ["_law_far_here", "_law_row"], false, ["_law_far_here", "_law_row", "_law_found", "_law_place", "_law_over", "_law_one"], b_law_lit⟩
def d_lit_of : He.DefD := ⟨("lit_of", none), "lit_of", "lit_of", defArgs (top 18), defBody (top 18), defScope (top 18), [], []⟩
def b_lit_of : List Sx := [.par [⟨3, .fr, (.fz []), (.blt .len [.var 1])⟩, ⟨4, .l, (.fz []), (.lst [])⟩], .forS (.n 2) .range (.fz []) [.var 3] [.ifS (.not (.blt .any [.comp [5] (.n 5) .range [.var 3] none (.and (.cmp .NotEq (.var 5) (.var 2)) (.cmp .GtE (.bin .Sub (.idx (.var 1) (.var 5)) (.idx (.idx (.var 0) (.var 5)) (.var 2))) (.idx (.var 1) (.var 2))))])) [.app 4 (.fz []) (.var 2)] []], .ret (.blt .tuple [.var 4])]
def f_lit_of : Fn := ⟨d_lit_of, "lit_of", ["table", "row"], false, ["table", "row", "place", "many", "found", "one"], b_lit_of⟩
def d_lit : He.DefD := ⟨("lit", none), "lit", "lit", defArgs (top 19), defBody (top 19), defScope (top 19), [], []⟩
def b_lit : List Sx := [.ret (.call "lit_of" [.call "need_both" [.var 0, .var 1], .var 1])]
def f_lit : Fn := ⟨d_lit, "lit", ["net", "row"], false, ["net", "row"], b_lit⟩
def d_law_pairs : He.DefD := ⟨("_law_pairs", none), "_law_pairs", "_law_pairs", defArgs (top 29), defBody (top 29), defScope (top 29), [], []⟩
def b_law_pairs : List Sx := [.set 1 (.fz []) (.lst []), .forS (.n 2) .range (.fz []) [.var 0] [.set 1 (.fz []) (.bin .Add (.var 1) (.comp [3] (.n 3) .range [.bin .Add (.var 2) (.int 1), .var 0] none (.tup [.var 2, .var 3])))], .ret (.var 1)]
def f_law_pairs : Fn := ⟨d_law_pairs, "_law_pairs", ["_law_many"], false, ["_law_many", "_law_found", "_law_one", "_law_other"], b_law_pairs⟩
def d_law_gaps : He.DefD := ⟨("_law_gaps", none), "_law_gaps", "_law_gaps", defArgs (top 30), defBody (top 30), defScope (top 30), [], []⟩
def b_law_gaps : List Sx := [.ret (.comp [2] (.n 2) .plain [.call "_law_pairs" [.blt .len [.var 1]]] (some (.cmp .Gt (.blt .abs [.bin .Sub (.idx (.var 1) (.idx (.var 2) (.int 0))) (.idx (.var 1) (.idx (.var 2) (.int 1)))]) (.idx (.idx (.var 0) (.idx (.var 2) (.int 0))) (.idx (.var 2) (.int 1))))) (.var 2))]
def f_law_gaps : Fn := ⟨d_law_gaps, "_law_gaps", ["_law_far_here", "_law_row"], false, ["_law_far_here", "_law_row", "_law_pair"], b_law_gaps⟩
def d_first_gap : He.DefD := ⟨("first_gap", none), "first_gap", "first_gap", defArgs (top 24), defBody (top 24), defScope (top 24), [], []⟩
def b_first_gap : List Sx := [.forS (.n 2) .range (.fz []) [.blt .len [.var 1]] [.forS (.n 3) .range (.fz []) [.bin .Add (.var 2) (.int 1), .blt .len [.var 1]] [.ifS (.cmp .Gt (.blt .abs [.bin .Sub (.idx (.var 1) (.var 2)) (.idx (.var 1) (.var 3))]) (.idx (.idx (.var 0) (.var 2)) (.var 3))) [.ret (.tup [.var 2, .var 3])] []]], .ret (.non)]
def f_first_gap : Fn := ⟨d_first_gap, "first_gap", ["table", "row"], false, ["table", "row", "one", "other"], b_first_gap⟩
def d_slope_gap : He.DefD := ⟨("slope_gap", none), "slope_gap", "slope_gap", defArgs (top 25), defBody (top 25), defScope (top 25), [], []⟩
def b_slope_gap : List Sx := [.ret (.call "first_gap" [.call "need_both" [.var 0, .var 1], .var 1])]
def f_slope_gap : Fn := ⟨d_slope_gap, "slope_gap", ["net", "row"], false, ["net", "row"], b_slope_gap⟩
def d_same_light : He.DefD := ⟨("same_light", none), "same_light", "same_light", defArgs (top 26), defBody (top 26), defScope (top 26), [], []⟩
def b_same_light : List Sx := [.expr (.fz []) (.call "need_net" [.var 0]), .expr (.fz []) (.call "need_row" [.var 0, .var 1]), .expr (.fz []) (.call "need_row" [.var 0, .var 2]), .set 3 (.fz []) (.call "table_of" [.var 0]), .ret (.cmp .Eq (.call "roof_of" [.var 3, .var 1]) (.call "roof_of" [.var 3, .var 2]))]
def f_same_light : Fn := ⟨d_same_light, "same_light", ["net", "one", "other"], false, ["net", "one", "other", "table"], b_same_light⟩
def d_higher : He.DefD := ⟨("higher", none), "higher", "higher", defArgs (top 27), defBody (top 27), defScope (top 27), [], []⟩
def b_higher : List Sx := [.expr (.fz []) (.call "need_net" [.var 0]), .expr (.fz []) (.call "need_row" [.var 0, .var 1]), .expr (.fz []) (.call "need_row" [.var 0, .var 2]), .ret (.blt .tuple [.comp [3] (.n 3) .zipN [.var 1, .var 2] none (.blt .maxL [.var 3])])]
def f_higher : Fn := ⟨d_higher, "higher", ["net", "one", "other"], false, ["net", "one", "other", "pair"], b_higher⟩
def d_law : He.DefD := ⟨("law", none), "law", "law", defArgs (top 40), defBody (top 40), defScope (top 40), [], []⟩
def b_law : List Sx := [.set 2 (.fz []) (.callR "_law_net" [.int 8, .callR "_law_pick" [.lst [.int 1, .int 3, .int 9]]]), .par [⟨7, .fr, (.fz []), (.idx (.var 2) (.int 0))⟩, ⟨8, .fr, (.fz []), (.call "_law_far" [.var 2])⟩], .set 3 (.fz []) (.callR "_law_heights" [.var 7, .callR "_law_pick" [.lst [.int 2, .int 6, .int 20, .int 99]]]), .par [⟨9, .fr, (.fz []), (.call "_law_roof" [.var 8, .var 3])⟩, ⟨10, .fr, (.fz []), (.call "_law_floor" [.var 8, .var 3])⟩], .ifS (.not (.call "_law_alike" [.lst [.call "roof" [.var 2, .var 3], .call "floor" [.var 2, .var 3]], .lst [.var 9, .var 10]])) [.ret (.bl false)] [], .ifS (.cmp .NotEq (.comp [13] (.n 13) .plain [.call "_law_lit" [.var 8, .var 9]] (some (.cmp .NotEq (.idx (.var 3) (.var 13)) (.idx (.var 9) (.var 13)))) (.var 13)) (.lst [])) [.ret (.bl false)] [], .ifS (.cmp .NotEq (.call "lit" [.var 2, .var 9]) (.call "lit" [.var 2, .var 3])) [.ret (.bl false)] [], .set 4 (.fz []) (.call "_law_gaps" [.var 8, .var 3]), .ifS (.not (.call "_law_alike" [.call "slope_gap" [.var 2, .var 3], .ite (.cmp .NotEq (.var 4) (.lst [])) (.idx (.var 4) (.int 0)) (.non)])) [.ret (.bl false)] [], .ifS (.cmp .NotEq (.cmp .Eq (.var 4) (.lst [])) (.cmp .Eq (.var 9) (.var 3))) [.ret (.bl false)] [], .set 5 (.fz []) (.callR "_law_heights" [.var 7, .int 20]), .ifS (.cmp .Eq (.callR "_law_taken" [.int 2]) (.int 0)) [.set 11 (.fz []) (.call "_law_lit" [.var 8, .var 9]), .set 12 (.fz []) (.comp [14] (.n 14) .plain [.var 9] none (.callR "_law_taken" [.bin .Add (.var 14) (.int 1)])), .set 5 (.fz []) (.blt .tuple [.comp [15] (.n 15) .range [.var 7] none (.ite (.cmp .In (.var 15) (.var 11)) (.idx (.var 9) (.var 15)) (.idx (.var 12) (.var 15)))])] [], .ifS (.not (.call "_law_alike" [.call "same_light" [.var 2, .var 3, .var 5], .cmp .Eq (.var 9) (.call "_law_roof" [.var 8, .var 5])])) [.ret (.bl false)] [], .set 6 (.fz []) (.blt .tuple [.comp [13] (.n 13) .range [.var 7] none (.blt .max2 [.idx (.var 3) (.var 13), .idx (.var 5) (.var 13)])]), .ifS (.not (.call "_law_alike" [.call "higher" [.var 2, .var 3, .var 5], .var 6])) [.ret (.bl false)] [], .ret (.cmp .Eq (.call "roof" [.var 2, .var 6]) (.blt .tuple [.comp [16] (.n 16) .zipN [.var 9, .call "_law_roof" [.var 8, .var 5]] none (.blt .maxL [.var 16])]))]
def l_law : LawF := ⟨d_law, "_law_script", ["_law_script", "_law_row", "_law_net_here", "_law_heights_here", "_law_gaps_here", "_law_other", "_law_top", "_law_many", "_law_far_here", "_law_up", "_law_down", "_law_shown", "_law_drawn", "_law_place", "_law_height", "_law_at", "_law_pair"], 6805, b_law⟩
def fns : List Fn := [f_law_taken, f_law_net, f_law_pick, f_law_far, f_law_heights, f_law_roof, f_law_floor, f_law_alike, f_roof_of, f_tuple_of, f_whole, f_within, f_is_rod, f_need_net, f_need_row, f_table_of, f_need_both, f_roof, f_floor_of, f_floor, f_law_lit, f_lit_of, f_lit, f_law_pairs, f_law_gaps, f_first_gap, f_slope_gap, f_same_light, f_higher]
def T : Tbl := ⟨["abs", "all", "any", "bool", "enumerate", "int", "isinstance", "len", "list", "max", "min", "range", "sorted", "str", "tuple", "zip"], [("MOST_HEIGHT", 99), ("MOST_LENGTH", 9), ("MOST_PLACES", 8)], [("_law_taken", true, 1), ("_law_net", true, 2), ("_law_pick", true, 1), ("_law_far", false, 1), ("_law_heights", true, 2), ("_law_roof", false, 2), ("_law_floor", false, 2), ("_law_alike", false, 2), ("roof_of", false, 2), ("tuple_of", false, 3), ("whole", false, 1), ("within", false, 3), ("is_rod", false, 2), ("need_net", false, 1), ("need_row", false, 2), ("table_of", false, 1), ("need_both", false, 2), ("roof", false, 2), ("floor_of", false, 2), ("floor", false, 2), ("_law_lit", false, 2), ("lit_of", false, 2), ("lit", false, 2), ("_law_pairs", false, 1), ("_law_gaps", false, 2), ("first_gap", false, 2), ("slope_gap", false, 2), ("same_light", false, 3), ("higher", false, 3)], false⟩
theorem ok_law_taken : f_law_taken.ok T = true := by decide +kernel
theorem ok_law_net : f_law_net.ok T = true := by decide +kernel
theorem ok_law_pick : f_law_pick.ok T = true := by decide +kernel
theorem ok_law_far : f_law_far.ok T = true := by decide +kernel
theorem ok_law_heights : f_law_heights.ok T = true := by decide +kernel
theorem ok_law_roof : f_law_roof.ok T = true := by decide +kernel
theorem ok_law_floor : f_law_floor.ok T = true := by decide +kernel
theorem ok_law_alike : f_law_alike.ok T = true := by decide +kernel
theorem ok_roof_of : f_roof_of.ok T = true := by decide +kernel
theorem ok_tuple_of : f_tuple_of.ok T = true := by decide +kernel
theorem ok_whole : f_whole.ok T = true := by decide +kernel
theorem ok_within : f_within.ok T = true := by decide +kernel
theorem ok_is_rod : f_is_rod.ok T = true := by decide +kernel
theorem ok_need_net : f_need_net.ok T = true := by decide +kernel
theorem ok_need_row : f_need_row.ok T = true := by decide +kernel
theorem ok_table_of : f_table_of.ok T = true := by decide +kernel
theorem ok_need_both : f_need_both.ok T = true := by decide +kernel
theorem ok_roof : f_roof.ok T = true := by decide +kernel
theorem ok_floor_of : f_floor_of.ok T = true := by decide +kernel
theorem ok_floor : f_floor.ok T = true := by decide +kernel
theorem ok_law_lit : f_law_lit.ok T = true := by decide +kernel
theorem ok_lit_of : f_lit_of.ok T = true := by decide +kernel
theorem ok_lit : f_lit.ok T = true := by decide +kernel
theorem ok_law_pairs : f_law_pairs.ok T = true := by decide +kernel
theorem ok_law_gaps : f_law_gaps.ok T = true := by decide +kernel
theorem ok_first_gap : f_first_gap.ok T = true := by decide +kernel
theorem ok_slope_gap : f_slope_gap.ok T = true := by decide +kernel
theorem ok_same_light : f_same_light.ok T = true := by decide +kernel
theorem ok_higher : f_higher.ok T = true := by decide +kernel
theorem ok_law : l_law.ok T = true := by decide +kernel
theorem bd_law_taken {K : PySem.W.Frag} {fd : FuncData} (F : FnD K d_law_taken fd) : Binds K fd ["_law_row", "_law_many"] [] := FunD.bindsN F fun _ _ _ _ _ _ us hl => match us, hl with | [_, _], _ => rfl
theorem bd_law_net {K : PySem.W.Frag} {fd : FuncData} (F : FnD K d_law_net fd) : Binds K fd ["_law_row", "_law_most", "_law_long"] [] := FunD.bindsN F fun _ _ _ _ _ _ us hl => match us, hl with | [_, _, _], _ => rfl
theorem bd_law_pick {K : PySem.W.Frag} {fd : FuncData} (F : FnD K d_law_pick fd) : Binds K fd ["_law_row", "_law_things"] [] := FunD.bindsN F fun _ _ _ _ _ _ us hl => match us, hl with | [_, _], _ => rfl
theorem bd_law_far {K : PySem.W.Frag} {fd : FuncData} (F : FnD K d_law_far fd) : Binds K fd ["_law_net_here"] [] := FunD.bindsN F fun _ _ _ _ _ _ us hl => match us, hl with | [_], _ => rfl
theorem bd_law_heights {K : PySem.W.Frag} {fd : FuncData} (F : FnD K d_law_heights fd) : Binds K fd ["_law_row", "_law_many", "_law_most"] [] := FunD.bindsN F fun _ _ _ _ _ _ us hl => match us, hl with | [_, _, _], _ => rfl
theorem bd_law_roof {K : PySem.W.Frag} {fd : FuncData} (F : FnD K d_law_roof fd) : Binds K fd ["_law_far_here", "_law_row"] [] := FunD.bindsN F fun _ _ _ _ _ _ us hl => match us, hl with | [_, _], _ => rfl
theorem bd_law_floor {K : PySem.W.Frag} {fd : FuncData} (F : FnD K d_law_floor fd) : Binds K fd ["_law_far_here", "_law_row"] [] := FunD.bindsN F fun _ _ _ _ _ _ us hl => match us, hl with | [_, _], _ => rfl
theorem bd_law_alike {K : PySem.W.Frag} {fd : FuncData} (F : FnD K d_law_alike fd) : Binds K fd ["_law_found", "_law_due"] [] := FunD.bindsN F fun _ _ _ _ _ _ us hl => match us, hl with | [_, _], _ => rfl
theorem bd_roof_of {K : PySem.W.Frag} {fd : FuncData} (F : FnD K d_roof_of fd) : Binds K fd ["table", "row"] [] := FunD.bindsN F fun _ _ _ _ _ _ us hl => match us, hl with | [_, _], _ => rfl
theorem bd_tuple_of {K : PySem.W.Frag} {fd : FuncData} (F : FnD K d_tuple_of fd) : Binds K fd ["value", "low", "high"] [] := FunD.bindsN F fun _ _ _ _ _ _ us hl => match us, hl with | [_, _, _], _ => rfl
theorem bd_whole {K : PySem.W.Frag} {fd : FuncData} (F : FnD K d_whole fd) : Binds K fd ["value"] [] := FunD.bindsN F fun _ _ _ _ _ _ us hl => match us, hl with | [_], _ => rfl
theorem bd_within {K : PySem.W.Frag} {fd : FuncData} (F : FnD K d_within fd) : Binds K fd ["value", "low", "high"] [] := FunD.bindsN F fun _ _ _ _ _ _ us hl => match us, hl with | [_, _, _], _ => rfl
theorem bd_is_rod {K : PySem.W.Frag} {fd : FuncData} (F : FnD K d_is_rod fd) : Binds K fd ["many", "value"] [] := FunD.bindsN F fun _ _ _ _ _ _ us hl => match us, hl with | [_, _], _ => rfl
theorem bd_need_net {K : PySem.W.Frag} {fd : FuncData} (F : FnD K d_need_net fd) : Binds K fd ["value"] [] := FunD.bindsN F fun _ _ _ _ _ _ us hl => match us, hl with | [_], _ => rfl
theorem bd_need_row {K : PySem.W.Frag} {fd : FuncData} (F : FnD K d_need_row fd) : Binds K fd ["net", "row"] [] := FunD.bindsN F fun _ _ _ _ _ _ us hl => match us, hl with | [_, _], _ => rfl
theorem bd_table_of {K : PySem.W.Frag} {fd : FuncData} (F : FnD K d_table_of fd) : Binds K fd ["net"] [] := FunD.bindsN F fun _ _ _ _ _ _ us hl => match us, hl with | [_], _ => rfl
theorem bd_need_both {K : PySem.W.Frag} {fd : FuncData} (F : FnD K d_need_both fd) : Binds K fd ["net", "row"] [] := FunD.bindsN F fun _ _ _ _ _ _ us hl => match us, hl with | [_, _], _ => rfl
theorem bd_roof {K : PySem.W.Frag} {fd : FuncData} (F : FnD K d_roof fd) : Binds K fd ["net", "row"] [] := FunD.bindsN F fun _ _ _ _ _ _ us hl => match us, hl with | [_, _], _ => rfl
theorem bd_floor_of {K : PySem.W.Frag} {fd : FuncData} (F : FnD K d_floor_of fd) : Binds K fd ["table", "row"] [] := FunD.bindsN F fun _ _ _ _ _ _ us hl => match us, hl with | [_, _], _ => rfl
theorem bd_floor {K : PySem.W.Frag} {fd : FuncData} (F : FnD K d_floor fd) : Binds K fd ["net", "row"] [] := FunD.bindsN F fun _ _ _ _ _ _ us hl => match us, hl with | [_, _], _ => rfl
theorem bd_law_lit {K : PySem.W.Frag} {fd : FuncData} (F : FnD K d_law_lit fd) : Binds K fd ["_law_far_here", "_law_row"] [] := FunD.bindsN F fun _ _ _ _ _ _ us hl => match us, hl with | [_, _], _ => rfl
theorem bd_lit_of {K : PySem.W.Frag} {fd : FuncData} (F : FnD K d_lit_of fd) : Binds K fd ["table", "row"] [] := FunD.bindsN F fun _ _ _ _ _ _ us hl => match us, hl with | [_, _], _ => rfl
theorem bd_lit {K : PySem.W.Frag} {fd : FuncData} (F : FnD K d_lit fd) : Binds K fd ["net", "row"] [] := FunD.bindsN F fun _ _ _ _ _ _ us hl => match us, hl with | [_, _], _ => rfl
theorem bd_law_pairs {K : PySem.W.Frag} {fd : FuncData} (F : FnD K d_law_pairs fd) : Binds K fd ["_law_many"] [] := FunD.bindsN F fun _ _ _ _ _ _ us hl => match us, hl with | [_], _ => rfl
theorem bd_law_gaps {K : PySem.W.Frag} {fd : FuncData} (F : FnD K d_law_gaps fd) : Binds K fd ["_law_far_here", "_law_row"] [] := FunD.bindsN F fun _ _ _ _ _ _ us hl => match us, hl with | [_, _], _ => rfl
theorem bd_first_gap {K : PySem.W.Frag} {fd : FuncData} (F : FnD K d_first_gap fd) : Binds K fd ["table", "row"] [] := FunD.bindsN F fun _ _ _ _ _ _ us hl => match us, hl with | [_, _], _ => rfl
theorem bd_slope_gap {K : PySem.W.Frag} {fd : FuncData} (F : FnD K d_slope_gap fd) : Binds K fd ["net", "row"] [] := FunD.bindsN F fun _ _ _ _ _ _ us hl => match us, hl with | [_, _], _ => rfl
theorem bd_same_light {K : PySem.W.Frag} {fd : FuncData} (F : FnD K d_same_light fd) : Binds K fd ["net", "one", "other"] [] := FunD.bindsN F fun _ _ _ _ _ _ us hl => match us, hl with | [_, _, _], _ => rfl
theorem bd_higher {K : PySem.W.Frag} {fd : FuncData} (F : FnD K d_higher fd) : Binds K fd ["net", "one", "other"] [] := FunD.bindsN F fun _ _ _ _ _ _ us hl => match us, hl with | [_, _, _], _ => rfl
theorem bd_law {K : PySem.W.Frag} {fd : FuncData} (F : FnD K d_law fd) : Binds K fd ["_law_script"] [] := FunD.bindsN F fun _ _ _ _ _ _ us hl => match us, hl with | [_], _ => rfl
def hfn : List He.DefD := [d_law_taken, d_law_net, d_law_pick, d_law_far, d_law_heights, d_law_roof, d_law_floor, d_law_alike, d_roof_of, d_tuple_of, d_whole, d_within, d_is_rod, d_need_net, d_need_row, d_table_of, d_need_both, d_roof, d_floor_of, d_floor, d_law_lit, d_lit_of, d_lit, d_law_pairs, d_law_gaps, d_first_gap, d_slope_gap, d_same_light, d_higher, d_law]
def fa : List He.Fa := [.glo "_law_taken", .glo "_law_net", .glo "_law_pick", .glo "_law_far", .glo "_law_heights", .glo "_law_roof", .glo "_law_floor", .glo "_law_alike", .glo "roof_of", .glo "tuple_of", .glo "whole", .glo "within", .glo "is_rod", .glo "need_net", .glo "need_row", .glo "table_of", .glo "need_both", .glo "roof", .glo "floor_of", .glo "floor", .glo "_law_lit", .glo "lit_of", .glo "lit", .glo "_law_pairs", .glo "_law_gaps", .glo "first_gap", .glo "slope_gap", .glo "same_light", .glo "higher", .glo "law", .free "abs", .free "all", .free "any", .free "bool", .free "enumerate", .free "int", .free "isinstance", .free "len", .free "list", .free "max", .free "min", .free "range", .free "sorted", .free "str", .free "tuple", .free "zip", .int "MOST_HEIGHT" 99, .int "MOST_LENGTH" 9, .int "MOST_PLACES" 8]
-- law at 40, loose: ['_law_taken', '_law_net', '_law_pick', '_law_far', '_law_heights', '_law_roof', '_law_floor', '_law_alike', 'roof_of', 'tuple_of', 'whole', 'within', 'is_rod', 'need_net', 'need_row', 'table_of', 'need_both', 'roof', 'floor_of', 'floor', '_law_lit', 'lit_of', 'lit', '_law_pairs', '_law_gaps', 'first_gap', 'slope_gap', 'same_light', 'higher']

abbrev R : PySem.W.OpenRow := PySem.W.OpenLaw.row PySem.Challenge.rw_littowers_k05_whole_roofs
abbrev hk : PySem.W.Hook := He.hookD 4 fa hfn
def ob (s : PySem.W.SharedT) : He.AlD := He.obsDG 4 fa hfn (HandSHeadRun.getT s)
theorem ob_eq (s : PySem.W.SharedT) : ob s = hk.obs s.abs := He.obsDG_eq (HandSHeadRun.getT_eq s)
theorem run (w : World) : HandSHeadRun.RunEq R (PySem.W.view R.prog [40]) hk ob 4000 ((["TowerError", "BadNet", "BadRow", "MOST_PLACES", "MOST_LENGTH", "MOST_HEIGHT", "whole", "within", "tuple_of", "is_rod", "need_net", "need_row", "table_of", "need_both", "lit_of", "lit", "roof_of", "roof", "floor_of", "floor"] : List PySem.Str) ++ (["first_gap", "slope_gap", "same_light", "higher", "_law_pairs", "_law_gaps", "_law_taken", "_law_net", "_law_pick", "_law_far", "_law_heights", "_law_roof", "_law_floor", "_law_alike", "_law_lit"] : List PySem.Str)) w := by
  intro os
  kernel_rfl
theorem has {K : PySem.W.Frag} {h : Heap} {mg : Str → Option Value} (X : K.In h) (G : h.Ns mainGlobals mg) (c : He.SaysD fa hfn K) : Has K mg T fns where
  fr := fun x hx => by
    simp only [T, List.mem_cons, List.mem_singleton, List.not_mem_nil, or_false] at hx
    rcases hx with rfl | rfl | rfl | rfl | rfl | rfl | rfl | rfl | rfl | rfl | rfl | rfl | rfl | rfl | rfl | rfl
    · exact He.free_ok X G (c.fact 30 (f := .free "abs") rfl)
    · exact He.free_ok X G (c.fact 31 (f := .free "all") rfl)
    · exact He.free_ok X G (c.fact 32 (f := .free "any") rfl)
    · exact He.free_ok X G (c.fact 33 (f := .free "bool") rfl)
    · exact He.free_ok X G (c.fact 34 (f := .free "enumerate") rfl)
    · exact He.free_ok X G (c.fact 35 (f := .free "int") rfl)
    · exact He.free_ok X G (c.fact 36 (f := .free "isinstance") rfl)
    · exact He.free_ok X G (c.fact 37 (f := .free "len") rfl)
    · exact He.free_ok X G (c.fact 38 (f := .free "list") rfl)
    · exact He.free_ok X G (c.fact 39 (f := .free "max") rfl)
    · exact He.free_ok X G (c.fact 40 (f := .free "min") rfl)
    · exact He.free_ok X G (c.fact 41 (f := .free "range") rfl)
    · exact He.free_ok X G (c.fact 42 (f := .free "sorted") rfl)
    · exact He.free_ok X G (c.fact 43 (f := .free "str") rfl)
    · exact He.free_ok X G (c.fact 44 (f := .free "tuple") rfl)
    · exact He.free_ok X G (c.fact 45 (f := .free "zip") rfl)
  gl := fun q hx => by
    simp only [T, List.mem_cons, List.mem_singleton, List.not_mem_nil, or_false] at hx
    rcases hx with rfl | rfl | rfl
    · exact He.int_ok X G (c.fact 46 (f := .int "MOST_HEIGHT" 99) rfl)
    · exact He.int_ok X G (c.fact 47 (f := .int "MOST_LENGTH" 9) rfl)
    · exact He.int_ok X G (c.fact 48 (f := .int "MOST_PLACES" 8) rfl)
  fs := fun q hx => by
    simp only [T, List.mem_cons, List.mem_singleton, List.not_mem_nil, or_false] at hx
    rcases hx with rfl | rfl | rfl | rfl | rfl | rfl | rfl | rfl | rfl | rfl | rfl | rfl | rfl | rfl | rfl | rfl | rfl | rfl | rfl | rfl | rfl | rfl | rfl | rfl | rfl | rfl | rfl | rfl | rfl
    · exact ⟨f_law_taken, by simp [fns], rfl, rfl, rfl⟩
    · exact ⟨f_law_net, by simp [fns], rfl, rfl, rfl⟩
    · exact ⟨f_law_pick, by simp [fns], rfl, rfl, rfl⟩
    · exact ⟨f_law_far, by simp [fns], rfl, rfl, rfl⟩
    · exact ⟨f_law_heights, by simp [fns], rfl, rfl, rfl⟩
    · exact ⟨f_law_roof, by simp [fns], rfl, rfl, rfl⟩
    · exact ⟨f_law_floor, by simp [fns], rfl, rfl, rfl⟩
    · exact ⟨f_law_alike, by simp [fns], rfl, rfl, rfl⟩
    · exact ⟨f_roof_of, by simp [fns], rfl, rfl, rfl⟩
    · exact ⟨f_tuple_of, by simp [fns], rfl, rfl, rfl⟩
    · exact ⟨f_whole, by simp [fns], rfl, rfl, rfl⟩
    · exact ⟨f_within, by simp [fns], rfl, rfl, rfl⟩
    · exact ⟨f_is_rod, by simp [fns], rfl, rfl, rfl⟩
    · exact ⟨f_need_net, by simp [fns], rfl, rfl, rfl⟩
    · exact ⟨f_need_row, by simp [fns], rfl, rfl, rfl⟩
    · exact ⟨f_table_of, by simp [fns], rfl, rfl, rfl⟩
    · exact ⟨f_need_both, by simp [fns], rfl, rfl, rfl⟩
    · exact ⟨f_roof, by simp [fns], rfl, rfl, rfl⟩
    · exact ⟨f_floor_of, by simp [fns], rfl, rfl, rfl⟩
    · exact ⟨f_floor, by simp [fns], rfl, rfl, rfl⟩
    · exact ⟨f_law_lit, by simp [fns], rfl, rfl, rfl⟩
    · exact ⟨f_lit_of, by simp [fns], rfl, rfl, rfl⟩
    · exact ⟨f_lit, by simp [fns], rfl, rfl, rfl⟩
    · exact ⟨f_law_pairs, by simp [fns], rfl, rfl, rfl⟩
    · exact ⟨f_law_gaps, by simp [fns], rfl, rfl, rfl⟩
    · exact ⟨f_first_gap, by simp [fns], rfl, rfl, rfl⟩
    · exact ⟨f_slope_gap, by simp [fns], rfl, rfl, rfl⟩
    · exact ⟨f_same_light, by simp [fns], rfl, rfl, rfl⟩
    · exact ⟨f_higher, by simp [fns], rfl, rfl, rfl⟩
  gc := fun h => absurd h (by decide)
  mg := fun f hx => by
    simp only [fns, List.mem_cons, List.mem_singleton, List.not_mem_nil, or_false] at hx
    rcases hx with rfl | rfl | rfl | rfl | rfl | rfl | rfl | rfl | rfl | rfl | rfl | rfl | rfl | rfl | rfl | rfl | rfl | rfl | rfl | rfl | rfl | rfl | rfl | rfl | rfl | rfl | rfl | rfl | rfl
    · exact He.glo_ok X G (c.fact 0 (f := .glo "_law_taken") rfl)
    · exact He.glo_ok X G (c.fact 1 (f := .glo "_law_net") rfl)
    · exact He.glo_ok X G (c.fact 2 (f := .glo "_law_pick") rfl)
    · exact He.glo_ok X G (c.fact 3 (f := .glo "_law_far") rfl)
    · exact He.glo_ok X G (c.fact 4 (f := .glo "_law_heights") rfl)
    · exact He.glo_ok X G (c.fact 5 (f := .glo "_law_roof") rfl)
    · exact He.glo_ok X G (c.fact 6 (f := .glo "_law_floor") rfl)
    · exact He.glo_ok X G (c.fact 7 (f := .glo "_law_alike") rfl)
    · exact He.glo_ok X G (c.fact 8 (f := .glo "roof_of") rfl)
    · exact He.glo_ok X G (c.fact 9 (f := .glo "tuple_of") rfl)
    · exact He.glo_ok X G (c.fact 10 (f := .glo "whole") rfl)
    · exact He.glo_ok X G (c.fact 11 (f := .glo "within") rfl)
    · exact He.glo_ok X G (c.fact 12 (f := .glo "is_rod") rfl)
    · exact He.glo_ok X G (c.fact 13 (f := .glo "need_net") rfl)
    · exact He.glo_ok X G (c.fact 14 (f := .glo "need_row") rfl)
    · exact He.glo_ok X G (c.fact 15 (f := .glo "table_of") rfl)
    · exact He.glo_ok X G (c.fact 16 (f := .glo "need_both") rfl)
    · exact He.glo_ok X G (c.fact 17 (f := .glo "roof") rfl)
    · exact He.glo_ok X G (c.fact 18 (f := .glo "floor_of") rfl)
    · exact He.glo_ok X G (c.fact 19 (f := .glo "floor") rfl)
    · exact He.glo_ok X G (c.fact 20 (f := .glo "_law_lit") rfl)
    · exact He.glo_ok X G (c.fact 21 (f := .glo "lit_of") rfl)
    · exact He.glo_ok X G (c.fact 22 (f := .glo "lit") rfl)
    · exact He.glo_ok X G (c.fact 23 (f := .glo "_law_pairs") rfl)
    · exact He.glo_ok X G (c.fact 24 (f := .glo "_law_gaps") rfl)
    · exact He.glo_ok X G (c.fact 25 (f := .glo "first_gap") rfl)
    · exact He.glo_ok X G (c.fact 26 (f := .glo "slope_gap") rfl)
    · exact He.glo_ok X G (c.fact 27 (f := .glo "same_light") rfl)
    · exact He.glo_ok X G (c.fact 28 (f := .glo "higher") rfl)
  d := fun f hx => by
    simp only [fns, List.mem_cons, List.mem_singleton, List.not_mem_nil, or_false] at hx
    rcases hx with rfl | rfl | rfl | rfl | rfl | rfl | rfl | rfl | rfl | rfl | rfl | rfl | rfl | rfl | rfl | rfl | rfl | rfl | rfl | rfl | rfl | rfl | rfl | rfl | rfl | rfl | rfl | rfl | rfl
    · obtain ⟨fd, F⟩ := c.def_ 0 (d := d_law_taken) rfl
      exact ⟨fd, F, bd_law_taken F⟩
    · obtain ⟨fd, F⟩ := c.def_ 1 (d := d_law_net) rfl
      exact ⟨fd, F, bd_law_net F⟩
    · obtain ⟨fd, F⟩ := c.def_ 2 (d := d_law_pick) rfl
      exact ⟨fd, F, bd_law_pick F⟩
    · obtain ⟨fd, F⟩ := c.def_ 3 (d := d_law_far) rfl
      exact ⟨fd, F, bd_law_far F⟩
    · obtain ⟨fd, F⟩ := c.def_ 4 (d := d_law_heights) rfl
      exact ⟨fd, F, bd_law_heights F⟩
    · obtain ⟨fd, F⟩ := c.def_ 5 (d := d_law_roof) rfl
      exact ⟨fd, F, bd_law_roof F⟩
    · obtain ⟨fd, F⟩ := c.def_ 6 (d := d_law_floor) rfl
      exact ⟨fd, F, bd_law_floor F⟩
    · obtain ⟨fd, F⟩ := c.def_ 7 (d := d_law_alike) rfl
      exact ⟨fd, F, bd_law_alike F⟩
    · obtain ⟨fd, F⟩ := c.def_ 8 (d := d_roof_of) rfl
      exact ⟨fd, F, bd_roof_of F⟩
    · obtain ⟨fd, F⟩ := c.def_ 9 (d := d_tuple_of) rfl
      exact ⟨fd, F, bd_tuple_of F⟩
    · obtain ⟨fd, F⟩ := c.def_ 10 (d := d_whole) rfl
      exact ⟨fd, F, bd_whole F⟩
    · obtain ⟨fd, F⟩ := c.def_ 11 (d := d_within) rfl
      exact ⟨fd, F, bd_within F⟩
    · obtain ⟨fd, F⟩ := c.def_ 12 (d := d_is_rod) rfl
      exact ⟨fd, F, bd_is_rod F⟩
    · obtain ⟨fd, F⟩ := c.def_ 13 (d := d_need_net) rfl
      exact ⟨fd, F, bd_need_net F⟩
    · obtain ⟨fd, F⟩ := c.def_ 14 (d := d_need_row) rfl
      exact ⟨fd, F, bd_need_row F⟩
    · obtain ⟨fd, F⟩ := c.def_ 15 (d := d_table_of) rfl
      exact ⟨fd, F, bd_table_of F⟩
    · obtain ⟨fd, F⟩ := c.def_ 16 (d := d_need_both) rfl
      exact ⟨fd, F, bd_need_both F⟩
    · obtain ⟨fd, F⟩ := c.def_ 17 (d := d_roof) rfl
      exact ⟨fd, F, bd_roof F⟩
    · obtain ⟨fd, F⟩ := c.def_ 18 (d := d_floor_of) rfl
      exact ⟨fd, F, bd_floor_of F⟩
    · obtain ⟨fd, F⟩ := c.def_ 19 (d := d_floor) rfl
      exact ⟨fd, F, bd_floor F⟩
    · obtain ⟨fd, F⟩ := c.def_ 20 (d := d_law_lit) rfl
      exact ⟨fd, F, bd_law_lit F⟩
    · obtain ⟨fd, F⟩ := c.def_ 21 (d := d_lit_of) rfl
      exact ⟨fd, F, bd_lit_of F⟩
    · obtain ⟨fd, F⟩ := c.def_ 22 (d := d_lit) rfl
      exact ⟨fd, F, bd_lit F⟩
    · obtain ⟨fd, F⟩ := c.def_ 23 (d := d_law_pairs) rfl
      exact ⟨fd, F, bd_law_pairs F⟩
    · obtain ⟨fd, F⟩ := c.def_ 24 (d := d_law_gaps) rfl
      exact ⟨fd, F, bd_law_gaps F⟩
    · obtain ⟨fd, F⟩ := c.def_ 25 (d := d_first_gap) rfl
      exact ⟨fd, F, bd_first_gap F⟩
    · obtain ⟨fd, F⟩ := c.def_ 26 (d := d_slope_gap) rfl
      exact ⟨fd, F, bd_slope_gap F⟩
    · obtain ⟨fd, F⟩ := c.def_ 27 (d := d_same_light) rfl
      exact ⟨fd, F, bd_same_light F⟩
    · obtain ⟨fd, F⟩ := c.def_ 28 (d := d_higher) rfl
      exact ⟨fd, F, bd_higher F⟩
  ok := fun f hx => by
    simp only [fns, List.mem_cons, List.mem_singleton, List.not_mem_nil, or_false] at hx
    rcases hx with rfl | rfl | rfl | rfl | rfl | rfl | rfl | rfl | rfl | rfl | rfl | rfl | rfl | rfl | rfl | rfl | rfl | rfl | rfl | rfl | rfl | rfl | rfl | rfl | rfl | rfl | rfl | rfl | rfl
    · exact ok_law_taken
    · exact ok_law_net
    · exact ok_law_pick
    · exact ok_law_far
    · exact ok_law_heights
    · exact ok_law_roof
    · exact ok_law_floor
    · exact ok_law_alike
    · exact ok_roof_of
    · exact ok_tuple_of
    · exact ok_whole
    · exact ok_within
    · exact ok_is_rod
    · exact ok_need_net
    · exact ok_need_row
    · exact ok_table_of
    · exact ok_need_both
    · exact ok_roof
    · exact ok_floor_of
    · exact ok_floor
    · exact ok_law_lit
    · exact ok_lit_of
    · exact ok_lit
    · exact ok_law_pairs
    · exact ok_law_gaps
    · exact ok_first_gap
    · exact ok_slope_gap
    · exact ok_same_light
    · exact ok_higher
  fnd := fun f hx => by
    simp only [fns, List.mem_cons, List.mem_singleton, List.not_mem_nil, or_false] at hx
    rcases hx with rfl | rfl | rfl | rfl | rfl | rfl | rfl | rfl | rfl | rfl | rfl | rfl | rfl | rfl | rfl | rfl | rfl | rfl | rfl | rfl | rfl | rfl | rfl | rfl | rfl | rfl | rfl | rfl | rfl
    · rfl
    · rfl
    · rfl
    · rfl
    · rfl
    · rfl
    · rfl
    · rfl
    · rfl
    · rfl
    · rfl
    · rfl
    · rfl
    · rfl
    · rfl
    · rfl
    · rfl
    · rfl
    · rfl
    · rfl
    · rfl
    · rfl
    · rfl
    · rfl
    · rfl
    · rfl
    · rfl
    · rfl
    · rfl
theorem o_law_taken (k : Nat) (hk : 1 ≤ k) : OkDraw (orc fns k) := by
  obtain ⟨kk, rfl⟩ : ∃ kk, k = kk + 1 := ⟨k - 1, by omega⟩
  exact fun w m h1 h2 ha => (draw_run _ w m h1 h2 ha).imp fun t h => h.imp fun w2 h => ⟨h.1, h.2.1, orc_step rfl rfl  h.2.2⟩
theorem o_law_pick (k : Nat) (hk : 2 ≤ k) : OkPickN (orc fns k) := by
  obtain ⟨kk, rfl⟩ : ∃ kk, k = kk + 1 := ⟨k - 1, by omega⟩
  exact fun w ls h1 h2 ha => (pick_ok _ (o_law_taken kk (by omega)) w ls h1 h2 ha).imp fun t h => h.imp fun w2 h => ⟨h.1, h.2.1, orc_step rfl rfl  h.2.2⟩
theorem o_law_net (k : Nat) (hk : 2 ≤ k) : OkNet (orc fns k) := by
  obtain ⟨kk, rfl⟩ : ∃ kk, k = kk + 1 := ⟨k - 1, by omega⟩
  exact fun w m l h1 h2 h3 h4 ha => (law_net_run _ (o_law_taken kk (by omega)) w m l h1 h2 h3 h4 ha).imp fun n h => h.imp fun rods h => h.imp fun w2 h => ⟨h.1, h.2.1, h.2.2.1, h.2.2.2.1, orc_step rfl rfl  h.2.2.2.2⟩
theorem o_law_heights (k : Nat) (hk : 2 ≤ k) : OkHeights (orc fns k) := by
  obtain ⟨kk, rfl⟩ : ∃ kk, k = kk + 1 := ⟨k - 1, by omega⟩
  exact fun w n m h1 h2 h3 ha => (heights_row _ (o_law_taken kk (by omega)) w n m h1 h2 h3 ha).imp fun t h => h.imp fun w2 h => ⟨h.1, h.2.1, orc_step rfl rfl  h.2.2⟩
theorem o_law_far (k : Nat) (hk : 1 ≤ k) : OkFar (orc fns k) := by
  obtain ⟨kk, rfl⟩ : ∃ kk, k = kk + 1 := ⟨k - 1, by omega⟩
  exact fun n rods d N D => orc_step rfl rfl  (law_far_run _ N D)
theorem o_law_alike : ∀ (m k : Nat), m + 1 ≤ k → OkAlike (orc fns k) m := by
  intro m
  induction m using Nat.strongRecOn with
  | _ m ih =>
    intro k hk
    obtain ⟨kk, rfl⟩ : ∃ kk, k = kk + 1 := ⟨k - 1, by omega⟩
    exact fun d hd => orc_step rfl rfl (alike_run _ (fun k hk' => ih k hk' kk (by omega)) hd)
theorem o_law_lit (k : Nat) (hk : 1 ≤ k) : OkLawLit (orc fns k) := by
  obtain ⟨kk, rfl⟩ : ∃ kk, k = kk + 1 := ⟨k - 1, by omega⟩
  exact fun n f h hn => orc_step rfl rfl  (law_lit_run _ hn)
theorem o_law_pairs (k : Nat) (hk : 1 ≤ k) : OkLawPairs (orc fns k) := by
  obtain ⟨kk, rfl⟩ : ∃ kk, k = kk + 1 := ⟨k - 1, by omega⟩
  exact fun n hn => orc_step rfl rfl  (law_pairs_run _ hn)
theorem o_law_gaps (k : Nat) (hk : 2 ≤ k) : OkLawGaps (orc fns k) := by
  obtain ⟨kk, rfl⟩ : ∃ kk, k = kk + 1 := ⟨k - 1, by omega⟩
  exact fun n f h n1 n8 => orc_step rfl rfl  (law_gaps_run _ (o_law_pairs kk (by omega)) n1 n8)
theorem o_law_roof (k : Nat) (hk : 1 ≤ k) : OkLawRoof (orc fns k) := by
  obtain ⟨kk, rfl⟩ : ∃ kk, k = kk + 1 := ⟨k - 1, by omega⟩
  exact fun n rods d h N D R => orc_step rfl rfl  (law_roof_run _ N D R)
theorem o_law_floor (k : Nat) (hk : 1 ≤ k) : OkLawFloor (orc fns k) := by
  obtain ⟨kk, rfl⟩ : ∃ kk, k = kk + 1 := ⟨k - 1, by omega⟩
  exact fun n rods d h N D R => orc_step rfl rfl  (law_floor_run _ N D R)
theorem o_tuple_of (k : Nat) (hk : 1 ≤ k) : OkTupleOf (orc fns k) := by
  obtain ⟨kk, rfl⟩ : ∃ kk, k = kk + 1 := ⟨k - 1, by omega⟩
  exact fun xs a b => orc_step rfl rfl  (tuple_of_run _ xs a b)
theorem o_whole (k : Nat) (hk : 1 ≤ k) : OkWhole (orc fns k) := by
  obtain ⟨kk, rfl⟩ : ∃ kk, k = kk + 1 := ⟨k - 1, by omega⟩
  exact fun i => orc_step rfl rfl  (whole_run _ i)
theorem o_within (k : Nat) (hk : 2 ≤ k) : OkWithin (orc fns k) := by
  obtain ⟨kk, rfl⟩ : ∃ kk, k = kk + 1 := ⟨k - 1, by omega⟩
  exact fun i a b => orc_step rfl rfl  (within_run _ (o_whole kk (by omega)) i a b)
theorem o_is_rod (k : Nat) (hk : 2 ≤ k) : OkIsRod (orc fns k) := by
  obtain ⟨kk, rfl⟩ : ∃ kk, k = kk + 1 := ⟨k - 1, by omega⟩
  exact fun n r a1 a2 a3 a4 => orc_step rfl rfl  (is_rod_run _ (o_tuple_of kk (by omega)) (o_whole kk (by omega)) n r a1 a2 a3 a4)
theorem o_need_net (k : Nat) (hk : 3 ≤ k) : OkNeedNet (orc fns k) := by
  obtain ⟨kk, rfl⟩ : ∃ kk, k = kk + 1 := ⟨k - 1, by omega⟩
  exact fun n rods N => orc_step rfl rfl  (need_net_run _ (o_tuple_of kk (by omega)) (o_within kk (by omega)) (o_is_rod kk (by omega)) N)
theorem o_need_row (k : Nat) (hk : 3 ≤ k) : OkNeedRow (orc fns k) := by
  obtain ⟨kk, rfl⟩ : ∃ kk, k = kk + 1 := ⟨k - 1, by omega⟩
  exact fun n r h R => orc_step rfl rfl  (need_row_ok _ (o_tuple_of kk (by omega)) (o_within kk (by omega)) n r h R)
theorem o_table_of (k : Nat) (hk : 1 ≤ k) : OkTableOf (orc fns k) := by
  obtain ⟨kk, rfl⟩ : ∃ kk, k = kk + 1 := ⟨k - 1, by omega⟩
  exact fun n rods f N D => orc_step rfl rfl  (table_ok _ N D)
theorem o_need_both (k : Nat) (hk : 4 ≤ k) : OkNeedBoth "need_both" (orc fns k) := by
  obtain ⟨kk, rfl⟩ : ∃ kk, k = kk + 1 := ⟨k - 1, by omega⟩
  exact fun n rods f h N D R => orc_step rfl rfl  (need_both_run _ (o_need_net kk (by omega)) (o_need_row kk (by omega)) (o_table_of kk (by omega)) N D R)
theorem o_roof_of (k : Nat) (hk : 1 ≤ k) : OkRoofOf (orc fns k) := by
  obtain ⟨kk, rfl⟩ : ∃ kk, k = kk + 1 := ⟨k - 1, by omega⟩
  exact fun n f h n1 hn => orc_step rfl rfl  (roof_of_run _ n1 hn)
theorem o_roof (k : Nat) (hk : 5 ≤ k) : OkRoof (orc fns k) := by
  obtain ⟨kk, rfl⟩ : ∃ kk, k = kk + 1 := ⟨k - 1, by omega⟩
  exact fun n rods d h N D R => orc_step rfl rfl  (roof_run _ (o_need_both kk (by omega)) (o_roof_of kk (by omega)) N D R)
theorem o_floor_of (k : Nat) (hk : 1 ≤ k) : OkFloorOf (orc fns k) := by
  obtain ⟨kk, rfl⟩ : ∃ kk, k = kk + 1 := ⟨k - 1, by omega⟩
  exact fun n f h n1 hn => orc_step rfl rfl  (floor_of_run _ n1 hn)
theorem o_floor (k : Nat) (hk : 5 ≤ k) : OkFloor (orc fns k) := by
  obtain ⟨kk, rfl⟩ : ∃ kk, k = kk + 1 := ⟨k - 1, by omega⟩
  exact fun n rods d h N D R => orc_step rfl rfl  (floor_run _ (o_need_both kk (by omega)) (o_floor_of kk (by omega)) N D R)
theorem o_lit_of (k : Nat) (hk : 1 ≤ k) : OkLitOf (orc fns k) := by
  obtain ⟨kk, rfl⟩ : ∃ kk, k = kk + 1 := ⟨k - 1, by omega⟩
  exact fun n f h hn => orc_step rfl rfl  (lit_of_run _ hn)
theorem o_lit (k : Nat) (hk : 5 ≤ k) : OkLit (orc fns k) := by
  obtain ⟨kk, rfl⟩ : ∃ kk, k = kk + 1 := ⟨k - 1, by omega⟩
  exact fun n rods d h N D R => orc_step rfl rfl  (lit_run _ (o_need_both kk (by omega)) (o_lit_of kk (by omega)) N D R)
theorem o_first_gap (k : Nat) (hk : 1 ≤ k) : OkFirstGap (orc fns k) := by
  obtain ⟨kk, rfl⟩ : ∃ kk, k = kk + 1 := ⟨k - 1, by omega⟩
  exact fun n f h hn => orc_step rfl rfl  (first_gap_run _ hn)
theorem o_slope_gap (k : Nat) (hk : 5 ≤ k) : OkSlopeGap (orc fns k) := by
  obtain ⟨kk, rfl⟩ : ∃ kk, k = kk + 1 := ⟨k - 1, by omega⟩
  exact fun n rods d h N D R => orc_step rfl rfl  (slope_gap_run _ (o_need_both kk (by omega)) (o_first_gap kk (by omega)) N D R)
theorem o_same_light (k : Nat) (hk : 4 ≤ k) : OkSameLight (orc fns k) := by
  obtain ⟨kk, rfl⟩ : ∃ kk, k = kk + 1 := ⟨k - 1, by omega⟩
  exact fun n rods d g h N D R S => orc_step rfl rfl  (same_light_run _ (o_need_net kk (by omega)) (o_need_row kk (by omega)) (o_table_of kk (by omega)) (o_roof_of kk (by omega)) N D R S)
theorem o_higher (k : Nat) (hk : 4 ≤ k) : OkHigher (orc fns k) := by
  obtain ⟨kk, rfl⟩ : ∃ kk, k = kk + 1 := ⟨k - 1, by omega⟩
  exact fun n rods g h N R S => orc_step rfl rfl  (higher_run _ (o_need_net kk (by omega)) (o_need_row kk (by omega)) N R S)
theorem law_true : l_law.true fns 12 := fun ns _ => law_k05_run _ (o_law_taken 12 (by omega)) (o_law_pick 12 (by omega)) (o_law_net 12 (by omega)) (o_law_heights 12 (by omega)) (o_law_far 12 (by omega)) (fun m hm => o_law_alike m 12 (by omega)) (o_law_lit 12 (by omega)) (o_law_gaps 12 (by omega)) (o_law_roof 12 (by omega)) (o_law_floor 12 (by omega)) (o_roof 12 (by omega)) (o_floor 12 (by omega)) (o_lit 12 (by omega)) (o_slope_gap 12 (by omega)) (o_same_light 12 (by omega)) (o_higher 12 (by omega)) ⟨ns, 0, _, 0⟩ (Int.le_refl 0)
end Lw
open PySem PySem.W PySem.Calls PyProof.Rows
theorem PySem.Challenge.cw_littowers_k05_whole_roofs_holds : PySem.Challenge.rw_littowers_k05_whole_roofs.Holds := by
  w_on; o_law
  refine HandSHeadRun.head_any (r := OpenLaw.row PySem.Challenge.rw_littowers_k05_whole_roofs) (q := view (OpenLaw.row PySem.Challenge.rw_littowers_k05_whole_roofs).prog [40]) (H := Lw.hk) (ob := Lw.ob) (M := 4000) (loose := ((["TowerError", "BadNet", "BadRow", "MOST_PLACES", "MOST_LENGTH", "MOST_HEIGHT", "whole", "within", "tuple_of", "is_rod", "need_net", "need_row", "table_of", "need_both", "lit_of", "lit", "roof_of", "roof", "floor_of", "floor"] : List PySem.Str) ++ (["first_gap", "slope_gap", "same_light", "higher", "_law_pairs", "_law_gaps", "_law_taken", "_law_net", "_law_pick", "_law_far", "_law_heights", "_law_roof", "_law_floor", "_law_alike", "_law_lit"] : List PySem.Str))) (d := HandSHeadRun.topDef (OpenLaw.row PySem.Challenge.rw_littowers_k05_whole_roofs).prog 40) (kwd := []) Lw.ob_eq
    (by kernel_rfl) (fun s => by kernel_rfl) Lw.run (by kernel_rfl) (by kernel_rfl) (by kernel_rfl) (by rfl) (by first | assumption | decide +kernel) (by decide +kernel) ⟨rfl, rfl, rfl, rfl, rfl, by decide +kernel⟩ ?hw ?hc
  case hw => w_witness2
  case hc =>
    refine L2.walk_ofE (l := PySem.Challenge.rw_littowers_k05_whole_roofs) (n := 63) (k := 13) (x := "_law_script") (CX := L2.CX0) rfl (by decide) (by kernel_rfl) ⟨rfl, by decide, by decide⟩ ?F (fun _ _ _ _ z => z)
    intro w mg fa h Y G hmg0
    obtain ⟨K, KX, c⟩ := Y
    have hmg : mg ("law" : PySem.Str) = some (.ref fa) := by
      have e : (HandSHeadRun.topDef (OpenLaw.row PySem.Challenge.rw_littowers_k05_whole_roofs).prog 40).name = ("law" : PySem.Str) := by kernel_rfl
      rw [← e]
      exact hmg0
    obtain ⟨fd, F⟩ := c.def_ 29 (d := Lw.d_law) rfl
    have e := hmg.symm.trans (He.glo_ok KX G (c.fact 29 (f := .glo "law") rfl))
    cases e
    have b := L2.FunD.bindsA (ps := ["_law_script"]) F fun _ _ _ _ _ _ us hl => match us, hl with | [_], _ => rfl
    exact ⟨K, fd, Lt.spLaw K, KX, fun s v => b s [v] rfl, fun H a ns hl _ hS => ⟨a, ns, rfl, hl, hS, fun _ => rfl⟩, fun base _ _ => Lt.law_ok (Lw.has KX G c) Lw.ok_law F Lw.law_true⟩

