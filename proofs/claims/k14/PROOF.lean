import PyProof.Rows.All
import Wide.All
import OpenK.AllK
import Wide.FinOn
import HandS.ForMost
import HandS.More
import HandS.IsInst
import HandS.Flow
import HandS.Conv
import HandS.Deep
import HandS.Wide
import HandS.WideBits
import HandS.Zip
import HandS.TupAny
import HandS.Defaults
import KE.KStateDown
import HandS.WordsExc
import HandS.Head0
import HandS.Head1
import HandS.Head2
import HandS.HeadEnd
import HandS.HeadHook1
import HandS.HeadHook2
import PySem.Challenge.RW_surerota_k14_rotas_turned_about
set_option Elab.async false
set_option linter.all false
set_option maxRecDepth 100000
set_option maxHeartbeats 4000000
/-! EngA: the engine's syntax and its evaluator over plain data. -/
namespace Eng
open PySem
/-- the arguments of a call by keywords, in the parameters' order -/
def permL {α : Type} (pm : List Nat) (xs : List α) : List α := pm.filterMap fun i => xs[i]?
def permK {α : Type} (n : Nat) (pm : List Nat) : List α → List α → List α
  | [], xs => if xs.length = n then permL pm xs else []
  | _ :: _, _ => []
abbrev D := PyData
abbrev DEnv := List (Option D)

/-- a target: one slot, or a pair, a triple of slots -/
inductive Tg | one (i : Nat) | two (i j : Nat) | thr (i j k : Nat)
  deriving DecidableEq
inductive Ty | int | bool | str | list | tuple
  deriving DecidableEq
/-- the builtin functions and types that are called by name -/
inductive Blt | len | abs | int | max | min | sum | all | any | list | tuple
  deriving DecidableEq
mutual
inductive E where
  | non | bl (b : Bool) | int (i : Int) | str (x : Str)
  | var (i : Nat)
  | con (x : Str) (i : Int)
  | lst (es : Es) | tup (es : Es)
  | bin (o : Operator) (a b : E)
  | neg (a : E)
  | cmp (o : CmpOp) (a b : E)
  | chn (o o' : CmpOp) (a b c : E)
  | bop (and : Bool) (es : Es)
  | not (a : E)
  | ifx (t a b : E)
  | idx (a i : E)
  | slc (a lo hi : E)
  | omt
  | lc (elt : E) (tg : Tg) (it : It)
  | lcc (elt : E) (tg : Tg) (it : It) (cnd : E)
  | call (f : Str) (es : Es)
  | callk (f : Str) (es : Es) (ks : List Str) (pm : List Nat)
  | blt (b : Blt) (es : Es)
  | isi (a : E) (ts : List Ty)
  | lenset (a : E)
  | lrng (a : E)
  | bits (a : E)
  | index (a b : E)
inductive Es where
  | nil | cons (e : E) (es : Es)
inductive It where
  | seq (e : E) | rng1 (a : E) | rng2 (a b : E) | enm (e : E)
end

/-! ### operations on data -/
abbrev big : Nat := sizeLine
def binV (o : Operator) (d e : D) : Option D :=
  match o, d, e with
  | .Add, .int i, .int j => some (.int (i + j))
  | .Add, .list xs, .list ys => if xs.length + ys.length ≤ big then some (.list (xs ++ ys)) else none
  | .Add, .tuple xs, .tuple ys => if xs.length + ys.length ≤ big then some (.tuple (xs ++ ys)) else none
  | .Add, .str x, .str y => if x.length + y.length ≤ big then some (.str (x ++ y)) else none
  | .Sub, .int i, .int j => some (.int (i - j))
  | .Mult, .int i, .int j => if i.natAbs.log2 + j.natAbs.log2 < 1000000 then some (.int (i * j)) else none
  | .Mult, .list xs, .int k => if -(2 ^ 63) ≤ k ∧ k < 2 ^ 63 ∧ xs.length * k.toNat ≤ big then some (.list (List.replicate k.toNat xs).flatten) else none
  | .FloorDiv, .int i, .int j => if 0 < j ∧ j.natAbs.log2 < 9000 then some (.int (i / j)) else none
  | .Mod, .int i, .int j => if 0 < j then some (.int (i % j)) else none
  | .Pow, .int i, .int j => if 0 ≤ j ∧ (Builtin.Int.intBits i : Int) * j ≤ 2 ^ 27 then some (.int (i ^ j.toNat)) else none
  | _, _, _ => none

def shp (d : D) : Bool := SeqAt.shaped d

def cmpV (o : CmpOp) (d e : D) : Option D :=
  match o, d, e with
  | .Eq, d, e => if shp d && shp e then some (.bool (PyData.eqv d e)) else none
  | .NotEq, d, e => if shp d && shp e then some (.bool (!PyData.eqv d e)) else none
  | .Lt, .int i, .int j => some (.bool (decide (i < j)))
  | .LtE, .int i, .int j => some (.bool (decide (i ≤ j)))
  | .Gt, .int i, .int j => some (.bool (decide (j < i)))
  | .GtE, .int i, .int j => some (.bool (decide (j ≤ i)))
  | .In, d, .list ds => if shp d && shp (.list ds) then some (.bool (ds.any fun z => PyData.eqv z d)) else none
  | .NotIn, d, .list ds => if shp d && shp (.list ds) then some (.bool (!ds.any fun z => PyData.eqv z d)) else none
  | .Is, d, .none => some (.bool (match d with | .none => true | _ => false))
  | .IsNot, d, .none => some (.bool (match d with | .none => false | _ => true))
  | _, _, _ => none

def truth : D → Option Bool
  | .none => some false
  | .bool b => some b
  | .int i => some (i != 0)
  | .str x => if x.length ≤ big then some ((x.length : Int) != 0) else none
  | .list xs => some (!xs.isEmpty)
  | .tuple xs => some (!xs.isEmpty)
  | .dict _ => none

def idxV (d i : D) : Option D :=
  match d, i with
  | .list xs, .int k => L2.atI xs k
  | .tuple xs, .int k => L2.atI xs k
  | .dict [(.none, .list xs)], .int k => L2.atI xs k
  | _, _ => none

/-- a part of a slice -/
def partV : D → Option (Option Int)
  | .int i => some (some i)
  | _ => none
def partE : E → Option D → Option (Option Int)
  | .omt, _ => some none
  | _, v => v.bind partV
def cutD (xs : List D) (lo hi : Option Int) : List D :=
  (xs.drop (HT.sIx xs.length 0 lo)).take (HT.sIx xs.length xs.length hi - HT.sIx xs.length 0 lo)
def slcV (d : D) (lo hi : Option Int) : Option D :=
  match d with
  | .list xs => some (.list (cutD xs lo hi))
  | .dict [(.none, .list xs)] => some (.list (cutD xs lo hi))
  | _ => none

def intsD : List D → Option (List Int)
  | [] => some []
  | .int i :: ds => (intsD ds).map (i :: ·)
  | _ :: _ => none
def boolsD : List D → Option (List Bool)
  | [] => some []
  | .bool i :: ds => (boolsD ds).map (i :: ·)
  | _ :: _ => none
def maxI : List Int → Option Int
  | [] => none
  | i :: is => some (is.foldl max i)
def minI : List Int → Option Int
  | [] => none
  | i :: is => some (is.foldl min i)

def tyName : D → String
  | .none => "NoneType"
  | .bool _ => "bool"
  | .int _ => "int"
  | .str _ => "str"
  | .list _ => "list"
  | .tuple _ => "tuple"
  | .dict _ => "dict"
def Ty.nm : Ty → String
  | .int => "int" | .bool => "bool" | .str => "str" | .list => "list" | .tuple => "tuple"
def isTy (d : D) (t : Ty) : Bool :=
  match d, t with
  | .int _, .int => true
  | .bool _, .int => true
  | .bool _, .bool => true
  | .str _, .str => true
  | .list _, .list => true
  | .tuple _, .tuple => true
  | _, _ => false
def known : D → Bool
  | .dict _ => false
  | _ => true
def isTys (d : D) (ts : List Ty) : Option Bool := if known d then some (ts.any (isTy d)) else none

def lenV : List D → Option D
  | [.list xs] => some (.int xs.length)
  | [.tuple xs] => some (.int xs.length)
  | [.str x] => if x.length ≤ big then some (.int x.length) else none
  | [.dict [(.none, .list xs)]] => some (.int xs.length)
  | _ => none
def intV : List D → Option D
  | [.int i] => some (.int i)
  | [.bool k] => some (.int (if k then 1 else 0))
  | _ => none
def absV : List D → Option D
  | [.int i] => some (.int (if i < 0 then -i else i))
  | _ => none
def maxV : List D → Option D
  | [.int i, .int j] => some (.int (if j > i then j else i))
  | [.list xs] => ((intsD xs).bind maxI).map .int
  | _ => none
def minV : List D → Option D
  | [.int i, .int j] => some (.int (if j < i then j else i))
  | [.list xs] => ((intsD xs).bind minI).map .int
  | _ => none
def sumV : List D → Option D
  | [.list xs] => (intsD xs).map fun ns => .int ns.sum
  | _ => none
def allV : List D → Option D
  | [.list xs] => (boolsD xs).map fun bs => .bool (bs.all id)
  | _ => none
def anyV : List D → Option D
  | [.list xs] => (boolsD xs).map fun bs => .bool (bs.any id)
  | _ => none
def listV : List D → Option D
  | [.list xs] => some (.list xs)
  | [.tuple xs] => some (.list xs)
  | _ => none
def tupleV : List D → Option D
  | [.list xs] => some (.tuple xs)
  | [.tuple xs] => some (.tuple xs)
  | _ => none
def bltV (b : Blt) (ds : List D) : Option D :=
  match b with
  | .len => lenV ds
  | .abs => absV ds
  | .int => intV ds
  | .max => maxV ds
  | .min => minV ds
  | .sum => sumV ds
  | .all => allV ds
  | .any => anyV ds
  | .list => listV ds
  | .tuple => tupleV ds

/-- each int once, where it comes first -/
def firsts (ns : List Int) : List Int := ns.foldl PyProof.Rows.step_dedup []

def look (env : DEnv) (i : Nat) : Option D := (env[i]?).join
def bindD (tg : Tg) (d : D) (env : DEnv) : Option DEnv :=
  match tg, d with
  | .one i, d => some (env.set i (some d))
  | .two i j, .tuple [a, b] => some ((env.set i (some a)).set j (some b))
  | .thr i j k, .tuple [a, b, c] => some (((env.set i (some a)).set j (some b)).set k (some c))
  | _, _ => none
def rngD (lo hi : Int) : Option (List D) :=
  if -(2 ^ 62) ≤ lo ∧ lo < 2 ^ 62 ∧ -(2 ^ 62) ≤ hi ∧ hi < 2 ^ 62 then some ((List.range (hi - lo).toNat).map fun (k : Nat) => .int (lo + (k : Int))) else none
def enumD (i : Nat) : List D → List D
  | [] => []
  | d :: ds => .tuple [.int (i : Int), d] :: enumD (i + 1) ds
def compD (f : D → Option (Option D)) : List D → Option (List D)
  | [] => some []
  | x :: xs => match f x, compD f xs with
    | some (some d), some ds => some (d :: ds)
    | some none, some ds => some ds
    | _, _ => none

/-- a program's defs, as data: name, arguments to a value -/
abbrev CallD := Str → List D → Option D

mutual
def evV (c : CallD) : E → DEnv → Option D
  | .non, _ => some .none
  | .bl b, _ => some (.bool b)
  | .int i, _ => some (.int i)
  | .str x, _ => some (.str x)
  | .var i, env => look env i
  | .con _ i, _ => some (.int i)
  | .lst es, env => (evVs c es env).bind fun ds => if ds.length ≤ big then some (.list ds) else none
  | .tup es, env => (evVs c es env).bind fun ds => if ds.length ≤ big then some (.tuple ds) else none
  | .bin o a b, env => (evV c a env).bind fun x => (evV c b env).bind fun y => binV o x y
  | .neg a, env => (evV c a env).bind fun x => match x with | .int i => some (.int (-i)) | _ => none
  | .cmp o a b, env => (evV c a env).bind fun x => (evV c b env).bind fun y => cmpV o x y
  | .chn o o' a b d, env => (evV c a env).bind fun x => (evV c b env).bind fun y => (cmpV o x y).bind fun z => match z with
    | .bool true => (evV c d env).bind fun w => cmpV o' y w
    | .bool false => some (.bool false)
    | _ => none
  | .bop k es, env => evBop c k es env
  | .not a, env => (evV c a env).bind fun x => (truth x).map fun b => .bool (!b)
  | .ifx t a b, env => (evV c t env).bind fun x => (truth x).bind fun k => if k then evV c a env else evV c b env
  | .idx a i, env => (evV c a env).bind fun x => (evV c i env).bind fun y => idxV x y
  | .slc a lo hi, env => (evV c a env).bind fun x => (partE lo (evV c lo env)).bind fun l => (partE hi (evV c hi env)).bind fun h => slcV x l h
  | .omt, _ => some .none
  | .lc elt tg it, env => (itV c it env).bind fun xs => if xs.length < big then
      (compD (fun d => (bindD tg d env).bind fun env' => (evV c elt env').map some) xs).map .list else none
  | .lcc elt tg it cnd, env => (itV c it env).bind fun xs => if xs.length < big then
      (compD (fun d => (bindD tg d env).bind fun env' => ((evV c cnd env').bind truth).bind fun k => if k then (evV c elt env').map some else some none) xs).map .list else none
  | .call f es, env => (evVs c es env).bind fun ds => c f ds
  | .callk f es ks pm, env => (evVs c es env).bind fun ds => if ds.length = ks.length then c f (permL pm ds) else none
  | .blt b es, env => (evVs c es env).bind fun ds => bltV b ds
  | .isi a ts, env => (evV c a env).bind fun x => (isTys x ts).map .bool
  | .lenset a, env => (evV c a env).bind fun x => match x with
    | .list xs => (intsD xs).bind fun ns => if ns.length ≤ 4000 then some (.int ((firsts ns).length)) else none
    | _ => none
  | .lrng a, env => (evV c a env).bind fun x => match x with
    | .int n => if 0 ≤ n ∧ n ≤ 16777216 then (rngD 0 n).map .list else none
    | _ => none
  | .bits a, env => (evV c a env).bind fun x => match x with
    | .int i => some (.int (Builtin.Int.intBits i : Nat))
    | _ => none
  | .index a b, env => (evV c a env).bind fun x => (evV c b env).bind fun y => match x with
    | .list ds => if shp (.list ds) && shp y then (ds.findIdx? fun z => PyData.eqv z y).map fun (j : Nat) => .int (j : Int) else none
    | _ => none
def evVs (c : CallD) : Es → DEnv → Option (List D)
  | .nil, _ => some []
  | .cons e es, env => (evV c e env).bind fun d => (evVs c es env).bind fun ds => some (d :: ds)
def evBop (c : CallD) (k : Bool) : Es → DEnv → Option D
  | .nil, _ => none
  | .cons e .nil, env => evV c e env
  | .cons e es, env => (evV c e env).bind fun d => (truth d).bind fun b => if b == k then evBop c k es env else some d
def itV (c : CallD) : It → DEnv → Option (List D)
  | .seq e, env => (evV c e env).bind fun x => match x with
    | .list xs => some xs
    | .tuple xs => some xs
    | _ => none
  | .rng1 a, env => (evV c a env).bind fun x => match x with
    | .int n => rngD 0 n
    | _ => none
  | .rng2 a b, env => (evV c a env).bind fun x => (evV c b env).bind fun y => match x, y with
    | .int i, .int j => rngD i j
    | _, _ => none
  | .enm e, env => (evV c e env).bind fun x => match x with
    | .list xs => some (enumD 0 xs)
    | _ => none
end
end Eng
set_option maxRecDepth 100000
set_option maxHeartbeats 4000000
/-! EngB: what stands for data in the heap; the operations' soundness. -/
namespace Eng
open PySem PySem.Spec PyProof.Rows L2

/-- the law's script: a list that may stand in the written part -/
abbrev frnD (ds : List D) : D := .dict [(.none, .list ds)]
mutual
inductive Rp (K : PySem.W.Frag) (H : Hp) : V → D → Prop
  | non : Rp K H .non .none
  | bl (b : Bool) : Rp K H (.bl b) (.bool b)
  | int (i : Int) : Rp K H (.int i) (.int i)
  | str (x : Str) : Rp K H (.str x) (.str x)
  | lst {a : Addr} {xs : List V} {ds : List D} : H a = some (.lst xs) → RpAll K H xs ds → Rp K H (.ref a) (.list ds)
  | tup {a : Addr} {xs : List V} {ds : List D} : H a = some (.tup xs) → RpAll K H xs ds → Rp K H (.ref a) (.tuple ds)
  | frn {a : Addr} {xs : List V} {ds : List D} : SqL K H a xs → RpAll K H xs ds → Rp K H (.ref a) (frnD ds)
inductive RpAll (K : PySem.W.Frag) (H : Hp) : List V → List D → Prop
  | nil : RpAll K H [] []
  | cons {v : V} {vs : List V} {d : D} {ds : List D} : Rp K H v d → RpAll K H vs ds → RpAll K H (v :: vs) (d :: ds)
end
section
variable {K : PySem.W.Frag} {H H' : Hp}
mutual
theorem Rp.mono (e : Same H H') : ∀ {v : V} {d : D}, Rp K H v d → Rp K H' v d
  | _, _, .non => .non
  | _, _, .bl b => .bl b
  | _, _, .int i => .int i
  | _, _, .str x => .str x
  | _, _, .lst h r => .lst (e _ _ h) (RpAll.mono e r)
  | _, _, .tup h r => .tup (e _ _ h) (RpAll.mono e r)
  | _, _, .frn h r => .frn (e.seq h) (RpAll.mono e r)
theorem RpAll.mono (e : Same H H') : ∀ {vs : List V} {ds : List D}, RpAll K H vs ds → RpAll K H' vs ds
  | _, _, .nil => .nil
  | _, _, .cons h r => .cons (Rp.mono e h) (RpAll.mono e r)
end
mutual
theorem Rp.dp : ∀ {v : V} {d : D}, Rp K H v d → d.canLay0 = true → Dp K H v d
  | _, _, .non, _ => .non
  | _, _, .bl b, _ => .bl b
  | _, _, .int i, _ => .int i
  | _, _, .str x, _ => .str x
  | _, _, .lst h r, c => .lst (.of h) (RpAll.dp r (by simpa [PyData.canLay0] using c))
  | _, _, .tup h r, c => .tup (.of h) (RpAll.dp r (by simpa [PyData.canLay0] using c))
  | _, _, .frn h r, c => by simp [PyData.canLay0] at c
theorem RpAll.dp : ∀ {vs : List V} {ds : List D}, RpAll K H vs ds → PyData.canLayAll0 ds = true → DpAll K H vs ds
  | _, _, .nil, _ => .nil
  | _, _, .cons h r, c => by
    rw [PyData.canLayAll0, Bool.and_eq_true_iff] at c
    exact .cons (Rp.dp h c.1) (RpAll.dp r c.2)
end
theorem RpAll.length : ∀ {vs : List V} {ds : List D}, RpAll K H vs ds → vs.length = ds.length
  | _, _, .nil => rfl
  | _, _, .cons _ r => by rw [List.length_cons, List.length_cons, RpAll.length r]
theorem RpAll.get : ∀ {vs : List V} {ds : List D} {i : Nat} {d : D}, RpAll K H vs ds → ds[i]? = some d → ∃ v, vs[i]? = some v ∧ Rp K H v d
  | _, _, _, _, .nil, h => by simp at h
  | _, _, 0, _, .cons a _, h => by
    simp at h
    subst h
    exact ⟨_, rfl, a⟩
  | _, _, i + 1, _, .cons _ r, h => by
    simp at h
    obtain ⟨v, e, q⟩ := RpAll.get r h
    exact ⟨v, by simpa using e, q⟩
theorem RpAll.getV : ∀ {vs : List V} {ds : List D} {i : Nat} {v : V}, RpAll K H vs ds → vs[i]? = some v → ∃ d, ds[i]? = some d ∧ Rp K H v d
  | _, _, _, _, .nil, h => by simp at h
  | _, _, 0, _, .cons a _, h => by
    simp at h
    subst h
    exact ⟨_, rfl, a⟩
  | _, _, i + 1, _, .cons _ r, h => by
    simp at h
    obtain ⟨v, e, q⟩ := RpAll.getV r h
    exact ⟨v, by simpa using e, q⟩
theorem RpAll.append : ∀ {vs ws : List V} {ds es : List D}, RpAll K H vs ds → RpAll K H ws es → RpAll K H (vs ++ ws) (ds ++ es)
  | _, _, _, _, .nil, s => s
  | _, _, _, _, .cons a r, s => .cons a (RpAll.append r s)
theorem RpAll.take : ∀ {vs : List V} {ds : List D} (n : Nat), RpAll K H vs ds → RpAll K H (vs.take n) (ds.take n)
  | _, _, 0, _ => .nil
  | _, _, _ + 1, .nil => .nil
  | _, _, n + 1, .cons a r => .cons a (RpAll.take n r)
theorem RpAll.drop : ∀ {vs : List V} {ds : List D} (n : Nat), RpAll K H vs ds → RpAll K H (vs.drop n) (ds.drop n)
  | _, _, 0, r => r
  | _, _, _ + 1, .nil => .nil
  | _, _, n + 1, .cons _ r => RpAll.drop n r
theorem RpAll.rep {vs : List V} {ds : List D} (r : RpAll K H vs ds) : ∀ k : Nat, RpAll K H (List.replicate k vs).flatten (List.replicate k ds).flatten
  | 0 => .nil
  | k + 1 => by
    rw [List.replicate_succ, List.replicate_succ, List.flatten_cons, List.flatten_cons]
    exact r.append (RpAll.rep r k)
theorem RpAll.ints : ∀ {vs : List V} {ds : List D} {ns : List Int}, RpAll K H vs ds → intsD ds = some ns → vs = ns.map V.int
  | _, _, _, .nil, h => by
    cases h
    rfl
  | _, _, _, .cons (.int i) r, h => by
    simp only [intsD, Option.map_eq_some_iff] at h
    obtain ⟨ms, e, rfl⟩ := h
    rw [RpAll.ints r e]
    rfl
  | _, _, _, .cons .non _, h => by simp [intsD] at h
  | _, _, _, .cons (.bl _) _, h => by simp [intsD] at h
  | _, _, _, .cons (.str _) _, h => by simp [intsD] at h
  | _, _, _, .cons (.lst _ _) _, h => by simp [intsD] at h
  | _, _, _, .cons (.tup _ _) _, h => by simp [intsD] at h
  | _, _, _, .cons (.frn _ _) _, h => by simp [intsD] at h
theorem RpAll.bools : ∀ {vs : List V} {ds : List D} {ns : List Bool}, RpAll K H vs ds → boolsD ds = some ns → vs = ns.map V.bl
  | _, _, _, .nil, h => by
    cases h
    rfl
  | _, _, _, .cons (.bl i) r, h => by
    simp only [boolsD, Option.map_eq_some_iff] at h
    obtain ⟨ms, e, rfl⟩ := h
    rw [RpAll.bools r e]
    rfl
  | _, _, _, .cons .non _, h => by simp [boolsD] at h
  | _, _, _, .cons (.int _) _, h => by simp [boolsD] at h
  | _, _, _, .cons (.str _) _, h => by simp [boolsD] at h
  | _, _, _, .cons (.lst _ _) _, h => by simp [boolsD] at h
  | _, _, _, .cons (.tup _ _) _, h => by simp [boolsD] at h
  | _, _, _, .cons (.frn _ _) _, h => by simp [boolsD] at h
theorem rpInts : ∀ ns : List Int, RpAll K H (ns.map V.int) (ns.map PyData.int)
  | [] => .nil
  | i :: ns => .cons (.int i) (rpInts ns)
theorem RpAll.snoc {vs : List V} {ds : List D} {v : V} {d : D} (r : RpAll K H vs ds) (h : Rp K H v d) : RpAll K H (vs ++ [v]) (ds ++ [d]) := r.append (.cons h .nil)
theorem Rp.list_inv {v : V} {ds : List D} (h : Rp K H v (.list ds)) : ∃ a xs, v = .ref a ∧ H a = some (.lst xs) ∧ RpAll K H xs ds := by
  cases h with
  | lst h r => exact ⟨_, _, rfl, h, r⟩
theorem Rp.tup_inv {v : V} {ds : List D} (h : Rp K H v (.tuple ds)) : ∃ a xs, v = .ref a ∧ H a = some (.tup xs) ∧ RpAll K H xs ds := by
  cases h with
  | tup h r => exact ⟨_, _, rfl, h, r⟩
theorem Rp.frn_inv {v : V} {ds : List D} (h : Rp K H v (frnD ds)) : ∃ a xs, v = .ref a ∧ SqL K H a xs ∧ RpAll K H xs ds := by
  cases h with
  | frn h r => exact ⟨_, _, rfl, h, r⟩
end

/-! ### how two heaps grow: H₀ what is fixed, H the whole -/
structure Gr (H0 H H0' H' : Hp) : Prop where
  a : Same H H'
  b : Same H0 H0'
  c : Same H0' H'
  n : ∀ x, H0 x = none → H x ≠ none → H0' x = none
section
variable {H0 H H0' H' H0'' H'' : Hp}
theorem Gr.refl (h : Same H0 H) : Gr H0 H H0 H := ⟨.refl _, .refl _, h, fun _ e _ => e⟩
theorem Gr.trans (p : Gr H0 H H0' H') (q : Gr H0' H' H0'' H'') : Gr H0 H H0'' H'' := ⟨p.a.trans q.a, p.b.trans q.b, q.c, fun x e f => by
  refine q.n x (p.n x e f) ?_
  cases h : H x with
  | none => exact absurd h f
  | some o =>
    rw [p.a x o h]
    exact fun z => nomatch z⟩
theorem same_new {H : Hp} {p : Addr} {o : HO} (h : H p = none) : Same H (upd H p o) := fun b u e => by
  rw [upd_ne (ne_of_none e h)]
  exact e
theorem same_upd {p : Addr} {o : HO} (h : Same H H') : Same (upd H p o) (upd H' p o) := fun b u e => by
  unfold upd at e ⊢
  split
  · rename_i q
    rw [if_pos q] at e
    exact e
  · rename_i q
    rw [if_neg q] at e
    exact h b u e
theorem Gr.new {p : Addr} {o : HO} (h : Same H0 H) (hp : H p = none) : Gr H0 H (upd H0 p o) (upd H p o) := by
  have h0 : H0 p = none := h.free hp
  refine ⟨same_new hp, same_new h0, same_upd h, fun x e f => ?_⟩
  have ne : x ≠ p := fun z => f (by rw [z]; exact hp)
  rw [upd_ne ne]
  exact e
/-- what comes of a new object laid behind a growth -/
theorem Gr.newT {p : Addr} {o : HO} (g : Gr H0 H H0' H') (hp : H' p = none) : Gr H0 H (upd H0' p o) (upd H' p o) := g.trans (Gr.new g.c hp)
end

/-- a value that stands for d, in the fixed heap, behind a growth -/
def Kd (K : PySem.W.Frag) (H0 H : Hp) (d : D) (Q : VK) : Prop := ∀ v H0' H', Gr H0 H H0' H' → Rp K H0' v d → Q v H'
theorem Kd.here {K : PySem.W.Frag} {H0 H : Hp} {d : D} {Q : VK} {v : V} (k : Kd K H0 H d Q) (h : Same H0 H) (r : Rp K H0 v d) : Q v H := k v H0 H (Gr.refl h) r
theorem Kd.newL {K : PySem.W.Frag} {H0 H : Hp} {ds : List D} {Q : VK} {xs : List V} {p : Addr} (k : Kd K H0 H (.list ds) Q) (h : Same H0 H) (hp : H p = none) (r : RpAll K H0 xs ds) : Q (.ref p) (upd H p (.lst xs)) :=
  k _ _ _ (Gr.new h hp) (.lst upd_same (r.mono (same_new (h.free hp))))
theorem Kd.newT {K : PySem.W.Frag} {H0 H : Hp} {ds : List D} {Q : VK} {xs : List V} {p : Addr} (k : Kd K H0 H (.tuple ds) Q) (h : Same H0 H) (hp : H p = none) (r : RpAll K H0 xs ds) : Q (.ref p) (upd H p (.tup xs)) :=
  k _ _ _ (Gr.new h hp) (.tup upd_same (r.mono (same_new (h.free hp))))

section
variable {X : Cx}
/-! ### operations -/
def rBinD (K : PySem.W.Frag) (o : Operator) : R2 := fun x y H Q => ∃ H0 d e g, Same H0 H ∧ Rp K H0 x d ∧ Rp K H0 y e ∧ binV o d e = some g ∧ Kd K H0 H g Q
theorem op_binD (o : Operator) : OpR X (binaryOp o) (rBinD X.K o) := by
  intro pins s σ H x y v u Q I rx ry h
  obtain ⟨H0, d, e, g, hs, hd, he, hg, k⟩ := h
  unfold binV at hg
  split at hg
  · cases hd; cases he; cases hg
    exact op_add pins s σ H _ _ v u Q I rx ry ⟨_, _, rfl, rfl, k.here hs (.int _)⟩
  · split at hg
    · rename_i hz
      cases hg
      obtain ⟨a, xs, rfl, ha, ra⟩ := hd.list_inv
      obtain ⟨b, ys, rfl, hb, rb⟩ := he.list_inv
      refine op_cat pins s σ H _ _ v u Q I rx ry ⟨a, b, xs, ys, rfl, rfl, hs _ _ ha, hs _ _ hb, ?_, fun p hp => k.newL hs hp (ra.append rb)⟩
      rw [ra.length, rb.length]
      exact hz
    · cases hg
  · split at hg
    · rename_i hz
      cases hg
      obtain ⟨a, xs, rfl, ha, ra⟩ := hd.tup_inv
      obtain ⟨b, ys, rfl, hb, rb⟩ := he.tup_inv
      refine op_catA pins s σ H _ _ v u Q I rx ry ⟨a, b, xs, ys, rfl, rfl, .of (hs _ _ ha), .of (hs _ _ hb), ?_, fun q => ?_, fun _ q => ?_, fun _ _ p hp => k.newT hs hp (ra.append rb)⟩
      · rw [ra.length, rb.length]
        exact hz
      · subst q
        cases ra
        exact k.here hs (.tup hb rb)
      · subst q
        cases rb
        exact k.here hs (.tup ha (by simpa using ra))
    · cases hg
  · split at hg
    · rename_i hz
      cases hd; cases he; cases hg
      exact op_add_str pins s σ H _ _ v u Q I rx ry ⟨_, _, rfl, rfl, hz, k.here hs (.str _)⟩
    · cases hg
  · cases hd; cases he; cases hg
    exact op_sub pins s σ H _ _ v u Q I rx ry ⟨_, _, rfl, rfl, k.here hs (.int _)⟩
  · split at hg
    · rename_i hz
      cases hd; cases he; cases hg
      exact op_mulW pins s σ H _ _ v u Q I rx ry ⟨_, _, rfl, rfl, hz, k.here hs (.int _)⟩
    · cases hg
  · split at hg
    · rename_i hz
      cases he; cases hg
      obtain ⟨a, xs, rfl, ha, ra⟩ := hd.list_inv
      refine op_rep pins s σ H _ _ v u Q I rx ry ⟨a, _, xs, rfl, rfl, hs _ _ ha, hz.1, hz.2.1, ?_, fun p hp => k.newL hs hp (ra.rep _)⟩
      rw [ra.length]
      exact hz.2.2
    · cases hg
  · split at hg
    · rename_i hz
      cases hd; cases he; cases hg
      exact op_fdivW pins s σ H _ _ v u Q I rx ry ⟨_, _, rfl, rfl, hz, k.here hs (.int _)⟩
    · cases hg
  · split at hg
    · rename_i hz
      cases hd; cases he; cases hg
      exact op_mod pins s σ H _ _ v u Q I rx ry ⟨_, _, rfl, rfl, hz, k.here hs (.int _)⟩
    · cases hg
  · split at hg
    · rename_i hz
      cases hd; cases he; cases hg
      obtain ⟨t, rfl⟩ := rx
      obtain ⟨t', rfl⟩ := ry
      exact pow_int hz.1 hz.2 ⟨.int _, H, I.tok _, ⟨_, rfl⟩, k.here hs (.int _)⟩
    · cases hg
  · cases hg
end
end Eng
set_option maxRecDepth 100000
set_option maxHeartbeats 4000000
/-! EngC: comparisons, subscripts, truth, builtin calls. -/
namespace Eng
open PySem PySem.Spec PyProof.Rows L2
section
variable {X : Cx}
theorem shp_lay {d : D} (h : shp d = true) : d.canLay0 = true := SeqAt.canLay_of_shaped h
def rCmpD (K : PySem.W.Frag) (o : CmpOp) : R2 := fun x y H Q => ∃ H0 d e g, Same H0 H ∧ Rp K H0 x d ∧ Rp K H0 y e ∧ cmpV o d e = some g ∧ Kd K H0 H g Q
theorem op_cmpD (hu : X.A.units + 65 < cLine) (o : CmpOp) : OpR X (compareOp o) (rCmpD X.K o) := by
  intro pins s σ H x y v u Q I rx ry h
  obtain ⟨H0, d, e, g, hs, hd, he, hg, k⟩ := h
  unfold cmpV at hg
  split at hg
  · split at hg
    · rename_i hz
      obtain ⟨z1, z2⟩ := Bool.and_eq_true_iff.mp hz
      cases hg
      exact op_eqD (by omega) pins s σ H _ _ v u Q I rx ry ⟨d, e, ((hd.mono hs).dp (shp_lay z1)), ((he.mono hs).dp (shp_lay z2)), z1, z2, k.here hs (.bl _)⟩
    · cases hg
  · split at hg
    · rename_i hz
      obtain ⟨z1, z2⟩ := Bool.and_eq_true_iff.mp hz
      cases hg
      exact op_neD (by omega) pins s σ H _ _ v u Q I rx ry ⟨d, e, ((hd.mono hs).dp (shp_lay z1)), ((he.mono hs).dp (shp_lay z2)), z1, z2, k.here hs (.bl _)⟩
    · cases hg
  · cases hd; cases he; cases hg
    exact op_lt pins s σ H _ _ v u Q I rx ry ⟨_, _, rfl, rfl, k.here hs (.bl _)⟩
  · cases hd; cases he; cases hg
    exact op_le pins s σ H _ _ v u Q I rx ry ⟨_, _, rfl, rfl, k.here hs (.bl _)⟩
  · cases hd; cases he; cases hg
    exact op_gt pins s σ H _ _ v u Q I rx ry ⟨_, _, rfl, rfl, k.here hs (.bl _)⟩
  · cases hd; cases he; cases hg
    exact op_ge pins s σ H _ _ v u Q I rx ry ⟨_, _, rfl, rfl, k.here hs (.bl _)⟩
  · split at hg
    · rename_i hz
      obtain ⟨z1, z2⟩ := Bool.and_eq_true_iff.mp hz
      cases hg
      exact op_inD hu pins s σ H _ _ v u Q I rx ry ⟨_, _, ((hd.mono hs).dp (shp_lay z1)), ((he.mono hs).dp (shp_lay z2)), z1, z2, k.here hs (.bl _)⟩
    · cases hg
  · split at hg
    · rename_i hz
      obtain ⟨z1, z2⟩ := Bool.and_eq_true_iff.mp hz
      cases hg
      exact op_notInD hu pins s σ H _ _ v u Q I rx ry ⟨_, _, ((hd.mono hs).dp (shp_lay z1)), ((he.mono hs).dp (shp_lay z2)), z1, z2, k.here hs (.bl _)⟩
    · cases hg
  · cases he
    refine op_isN pins s σ H _ _ v u Q I rx ry ⟨rfl, ?_⟩
    cases hg
    cases hd <;> exact k.here hs (.bl _)
  · cases he
    refine op_notN pins s σ H _ _ v u Q I rx ry ⟨rfl, ?_⟩
    cases hg
    cases hd <;> exact k.here hs (.bl _)
  · cases hg

theorem atI_map {xs : List V} {ds : List D} {K : PySem.W.Frag} {H : Hp} {i : Int} {d : D} (r : RpAll K H xs ds) (h : atI ds i = some d) : ∃ x, atI xs i = some x ∧ Rp K H x d := by
  unfold atI at h ⊢
  rw [r.length]
  cases e : ixN ds.length i with
  | none =>
    rw [e] at h
    cases h
  | some j =>
    rw [e] at h
    exact r.get h
def rIdxD (K : PySem.W.Frag) : R2 := fun x y H Q => ∃ H0 d e g, Same H0 H ∧ Rp K H0 x d ∧ Rp K H0 y e ∧ idxV d e = some g ∧ Kd K H0 H g Q
theorem ix_D : IxR X (rIdxD X.K) := by
  intro value slice pins s σ H x y v u Q I rx ry h hsl
  obtain ⟨H0, d, e, g, hs, hd, he, hg, k⟩ := h
  unfold idxV at hg
  split at hg
  · cases he
    obtain ⟨a, xs, rfl, ha, ra⟩ := hd.list_inv
    obtain ⟨z, ez, rz⟩ := atI_map ra hg
    exact ix_list value slice pins s σ H _ _ v u Q I rx ry ⟨a, xs, _, z, rfl, rfl, .of (hs _ _ ha), ez, k.here hs rz⟩ hsl
  · cases he
    obtain ⟨a, xs, rfl, ha, ra⟩ := hd.tup_inv
    obtain ⟨z, ez, rz⟩ := atI_map ra hg
    exact ix_tup value slice pins s σ H _ _ v u Q I rx ry ⟨a, xs, _, z, rfl, rfl, .of (hs _ _ ha), ez, k.here hs rz⟩ hsl
  · cases he
    obtain ⟨a, xs, rfl, ha, ra⟩ := hd.frn_inv
    obtain ⟨z, ez, rz⟩ := atI_map ra hg
    exact ix_list value slice pins s σ H _ _ v u Q I rx ry ⟨a, xs, _, z, rfl, rfl, hs.seq ha, ez, k.here hs rz⟩ hsl
  · cases hg

theorem RpAll.cut {K : PySem.W.Frag} {H : Hp} {xs : List V} {ds : List D} (r : RpAll K H xs ds) (lo hi : Option Int) : RpAll K H (cutV xs lo hi) (cutD ds lo hi) := by
  unfold cutV cutD
  rw [r.length]
  exact (r.drop _).take _
def rSlcD (K : PySem.W.Frag) : V → Option Int → Option Int → Hp → VK → Prop := fun x lo hi H Q => ∃ H0 d g, Same H0 H ∧ Rp K H0 x d ∧ slcV d lo hi = some g ∧ Kd K H0 H g Q
theorem sl_D : SlR X (rSlcD X.K) := by
  intro pins s σ H x v vl vu lo hi sl Q I rx hsl pl pu h
  obtain ⟨H0, d, g, hs, hd, hg, k⟩ := h
  unfold slcV at hg
  split at hg
  · cases hg
    obtain ⟨a, xs, rfl, ha, ra⟩ := hd.list_inv
    exact sl_list pins s σ H _ v vl vu lo hi sl Q I rx hsl pl pu ⟨a, xs, rfl, .of (hs _ _ ha), fun p hp => k.newL hs hp (ra.cut lo hi)⟩
  · cases hg
    obtain ⟨a, xs, rfl, ha, ra⟩ := hd.frn_inv
    exact sl_list pins s σ H _ v vl vu lo hi sl Q I rx hsl pl pu ⟨a, xs, rfl, hs.seq ha, fun p hp => k.newL hs hp (ra.cut lo hi)⟩
  · cases hg
theorem empty_rp {K : PySem.W.Frag} {H : Hp} {xs : List V} {ds : List D} (r : RpAll K H xs ds) : (!ds.isEmpty) = !xs.isEmpty := by
  cases r <;> rfl
theorem tru_D {K : PySem.W.Frag} {H0 H : Hp} {x : V} {d : D} {b : Bool} (hs : Same H0 H) (hd : Rp K H0 x d) (h : truth d = some b) : TruV K x H b := by
  cases hd with
  | non => cases h; rfl
  | bl c => cases h; rfl
  | int i => cases h; rfl
  | str z =>
    simp only [truth] at h
    split at h
    · rename_i hz
      cases h
      exact ⟨hz, rfl⟩
    · cases h
  | lst ha r =>
    cases h
    exact .inl ⟨_, .of (hs _ _ ha), empty_rp r⟩
  | tup ha r =>
    cases h
    exact .inr (.inl ⟨_, .of (hs _ _ ha), empty_rp r⟩)
  | frn ha r => cases h

/-! ### builtin calls -/
theorem maxl_le : ∀ (is : List Int) (i : Int), i ≤ is.foldl max i ∧ (∀ y ∈ is, y ≤ is.foldl max i) ∧ (is.foldl max i = i ∨ is.foldl max i ∈ is)
  | [], i => ⟨Int.le_refl _, (fun _ h => absurd h List.not_mem_nil), Or.inl rfl⟩
  | a :: is, i => by
    obtain ⟨h1, h2, h3⟩ := maxl_le is (max i a)
    refine ⟨by simp only [List.foldl_cons]; omega, fun y hy => ?_, ?_⟩
    · rcases List.mem_cons.mp hy with rfl | hy
      · simp only [List.foldl_cons]; omega
      · exact h2 y hy
    · simp only [List.foldl_cons, List.mem_cons]
      rcases h3 with h3 | h3
      · rw [h3]
        by_cases q : i ≤ a
        · right; left; omega
        · left; omega
      · exact .inr (.inr h3)
theorem minl_le : ∀ (is : List Int) (i : Int), is.foldl min i ≤ i ∧ (∀ y ∈ is, is.foldl min i ≤ y) ∧ (is.foldl min i = i ∨ is.foldl min i ∈ is)
  | [], i => ⟨Int.le_refl _, (fun _ h => absurd h List.not_mem_nil), Or.inl rfl⟩
  | a :: is, i => by
    obtain ⟨h1, h2, h3⟩ := minl_le is (min i a)
    refine ⟨by simp only [List.foldl_cons]; omega, fun y hy => ?_, ?_⟩
    · rcases List.mem_cons.mp hy with rfl | hy
      · simp only [List.foldl_cons]; omega
      · exact h2 y hy
    · simp only [List.foldl_cons, List.mem_cons]
      rcases h3 with h3 | h3
      · rw [h3]
        by_cases q : a ≤ i
        · right; left; omega
        · left; omega
      · exact .inr (.inr h3)
theorem maxI_eq {ns : List Int} {m n : Int} (h : maxI ns = some n) (hm : m ∈ ns) (hle : ∀ y ∈ ns, y ≤ m) : m = n := by
  cases ns with
  | nil => cases h
  | cons i is =>
    obtain ⟨h1, h2, h3⟩ := maxl_le is i
    have e : is.foldl max i = n := Option.some.inj h
    rw [e] at h1 h2 h3
    have a1 : n ≤ m := by
      rcases h3 with q | q
      · rw [q]; exact hle i List.mem_cons_self
      · exact hle n (List.mem_cons_of_mem _ q)
    have a2 : m ≤ n := by
      rcases List.mem_cons.mp hm with q | q
      · rw [q]; exact h1
      · exact h2 m q
    omega
theorem minI_eq {ns : List Int} {m n : Int} (h : minI ns = some n) (hm : m ∈ ns) (hle : ∀ y ∈ ns, m ≤ y) : m = n := by
  cases ns with
  | nil => cases h
  | cons i is =>
    obtain ⟨h1, h2, h3⟩ := minl_le is i
    have e : is.foldl min i = n := Option.some.inj h
    rw [e] at h1 h2 h3
    have a1 : m ≤ n := by
      rcases h3 with q | q
      · rw [q]; exact hle i List.mem_cons_self
      · exact hle n (List.mem_cons_of_mem _ q)
    have a2 : n ≤ m := by
      rcases List.mem_cons.mp hm with q | q
      · rw [q]; exact h1
      · exact h2 m q
    omega

abbrev RB := List V → Hp → VK → Prop
def rBltD (K : PySem.W.Frag) (b : Blt) : RB := fun xs H Q => ∃ H0 ds g, Same H0 H ∧ RpAll K H0 xs ds ∧ bltV b ds = some g ∧ Kd K H0 H g Q
theorem one_inv {K : PySem.W.Frag} {H : Hp} {xs : List V} {d : D} (r : RpAll K H xs [d]) : ∃ x, xs = [x] ∧ Rp K H x d := by
  cases r with
  | cons a r =>
    cases r
    exact ⟨_, rfl, a⟩
theorem two_inv {K : PySem.W.Frag} {H : Hp} {xs : List V} {d e : D} (r : RpAll K H xs [d, e]) : ∃ x y, xs = [x, y] ∧ Rp K H x d ∧ Rp K H y e := by
  cases r with
  | cons a r =>
    obtain ⟨y, rfl, b⟩ := one_inv r
    exact ⟨_, _, rfl, a, b⟩
theorem cr_lenD : CallR X (.builtin "len") (rBltD X.K .len) := by
  intro pins s σ H xs us Q I r h
  obtain ⟨H0, ds, g, hs, hd, hg, k⟩ := h
  have hg : lenV ds = some g := hg
  unfold lenV at hg
  split at hg
  · cases hg
    obtain ⟨x, rfl, hx⟩ := one_inv hd
    obtain ⟨a, ys, rfl, ha, ra⟩ := hx.list_inv
    exact call_len_seq pins s σ H _ us Q I r ⟨a, ys, rfl, .inl (.of (hs _ _ ha)), by rw [ra.length]; exact k.here hs (.int _)⟩
  · cases hg
    obtain ⟨x, rfl, hx⟩ := one_inv hd
    obtain ⟨a, ys, rfl, ha, ra⟩ := hx.tup_inv
    exact call_len_seq pins s σ H _ us Q I r ⟨a, ys, rfl, .inr (.of (hs _ _ ha)), by rw [ra.length]; exact k.here hs (.int _)⟩
  · split at hg
    · rename_i hz
      cases hg
      obtain ⟨x, rfl, hx⟩ := one_inv hd
      cases hx
      exact call_len_str pins s σ H _ us Q I r ⟨_, rfl, hz, k.here hs (.int _)⟩
    · cases hg
  · cases hg
    obtain ⟨x, rfl, hx⟩ := one_inv hd
    obtain ⟨a, ys, rfl, ha, ra⟩ := hx.frn_inv
    exact call_len_seq pins s σ H _ us Q I r ⟨a, ys, rfl, .inl (hs.seq ha), by rw [ra.length]; exact k.here hs (.int _)⟩
  · cases hg
theorem cr_intD : CallR X (.type "int") (rBltD X.K .int) := by
  intro pins s σ H xs us Q I r h
  obtain ⟨H0, ds, g, hs, hd, hg, k⟩ := h
  have hg : intV ds = some g := hg
  unfold intV at hg
  split at hg
  · cases hg
    obtain ⟨x, rfl, hx⟩ := one_inv hd
    cases hx
    exact call_int1 pins s σ H _ us Q I r (.inl ⟨_, rfl, k.here hs (.int _)⟩)
  · cases hg
    obtain ⟨x, rfl, hx⟩ := one_inv hd
    cases hx
    exact call_int1 pins s σ H _ us Q I r (.inr ⟨_, rfl, k.here hs (.int _)⟩)
  · cases hg
theorem cr_absD : CallR X (.builtin "abs") (rBltD X.K .abs) := by
  intro pins s σ H xs us Q I r h
  obtain ⟨H0, ds, g, hs, hd, hg, k⟩ := h
  have hg : absV ds = some g := hg
  unfold absV at hg
  split at hg
  · cases hg
    obtain ⟨x, rfl, hx⟩ := one_inv hd
    cases hx
    exact call_abs pins s σ H _ us Q I r ⟨_, rfl, k.here hs (.int _)⟩
  · cases hg
theorem cr_maxD (hc : X.calm = true) : CallR X (.builtin "max") (rBltD X.K .max) := by
  intro pins s σ H xs us Q I r h
  obtain ⟨H0, ds, g, hs, hd, hg, k⟩ := h
  have hg : maxV ds = some g := hg
  unfold maxV at hg
  split at hg
  · cases hg
    obtain ⟨x, y, rfl, hx, hy⟩ := two_inv hd
    cases hx; cases hy
    exact call_max2 hc pins s σ H _ us Q I r ⟨_, _, rfl, k.here hs (.int _)⟩
  · obtain ⟨x, rfl, hx⟩ := one_inv hd
    obtain ⟨a, ys, rfl, ha, ra⟩ := hx.list_inv
    simp only [Option.map_eq_some_iff, Option.bind_eq_some_iff] at hg
    obtain ⟨n, ⟨ns, e1, e2⟩, rfl⟩ := hg
    have e := ra.ints e1
    subst e
    refine cr_max hc pins s σ H _ us Q I r ⟨a, ns, rfl, .of (hs _ _ ha), ?_, fun m hm hle => ?_⟩
    · cases ns with
      | nil => cases e2
      | cons _ _ => exact Nat.succ_pos _
    · rw [maxI_eq e2 hm hle]
      exact k.here hs (.int _)
  · cases hg
theorem cr_minD (hc : X.calm = true) : CallR X (.builtin "min") (rBltD X.K .min) := by
  intro pins s σ H xs us Q I r h
  obtain ⟨H0, ds, g, hs, hd, hg, k⟩ := h
  have hg : minV ds = some g := hg
  unfold minV at hg
  split at hg
  · cases hg
    obtain ⟨x, y, rfl, hx, hy⟩ := two_inv hd
    cases hx; cases hy
    exact call_min2 hc pins s σ H _ us Q I r ⟨_, _, rfl, k.here hs (.int _)⟩
  · obtain ⟨x, rfl, hx⟩ := one_inv hd
    obtain ⟨a, ys, rfl, ha, ra⟩ := hx.list_inv
    simp only [Option.map_eq_some_iff, Option.bind_eq_some_iff] at hg
    obtain ⟨n, ⟨ns, e1, e2⟩, rfl⟩ := hg
    have e := ra.ints e1
    subst e
    refine cr_min hc pins s σ H _ us Q I r ⟨a, ns, rfl, .of (hs _ _ ha), ?_, fun m hm hle => ?_⟩
    · cases ns with
      | nil => cases e2
      | cons _ _ => exact Nat.succ_pos _
    · rw [minI_eq e2 hm hle]
      exact k.here hs (.int _)
  · cases hg
theorem cr_sumD (hc : X.calm = true) : CallR X (.builtin "sum") (rBltD X.K .sum) := by
  intro pins s σ H xs us Q I r h
  obtain ⟨H0, ds, g, hs, hd, hg, k⟩ := h
  have hg : sumV ds = some g := hg
  unfold sumV at hg
  split at hg
  · obtain ⟨x, rfl, hx⟩ := one_inv hd
    obtain ⟨a, ys, rfl, ha, ra⟩ := hx.list_inv
    simp only [Option.map_eq_some_iff] at hg
    obtain ⟨ns, e1, rfl⟩ := hg
    have e := ra.ints e1
    subst e
    exact cr_sum hc pins s σ H _ us Q I r ⟨a, ns, rfl, .of (hs _ _ ha), k.here hs (.int _)⟩
  · cases hg
theorem cr_allD (hc : X.calm = true) : CallR X (.builtin "all") (rBltD X.K .all) := by
  intro pins s σ H xs us Q I r h
  obtain ⟨H0, ds, g, hs, hd, hg, k⟩ := h
  have hg : allV ds = some g := hg
  unfold allV at hg
  split at hg
  · obtain ⟨x, rfl, hx⟩ := one_inv hd
    obtain ⟨a, ys, rfl, ha, ra⟩ := hx.list_inv
    simp only [Option.map_eq_some_iff] at hg
    obtain ⟨ns, e1, rfl⟩ := hg
    have e := ra.bools e1
    subst e
    exact cr_all hc pins s σ H _ us Q I r ⟨a, ns, rfl, .of (hs _ _ ha), k.here hs (.bl _)⟩
  · cases hg
theorem cr_anyD (hc : X.calm = true) : CallR X (.builtin "any") (rBltD X.K .any) := by
  intro pins s σ H xs us Q I r h
  obtain ⟨H0, ds, g, hs, hd, hg, k⟩ := h
  have hg : anyV ds = some g := hg
  unfold anyV at hg
  split at hg
  · obtain ⟨x, rfl, hx⟩ := one_inv hd
    obtain ⟨a, ys, rfl, ha, ra⟩ := hx.list_inv
    simp only [Option.map_eq_some_iff] at hg
    obtain ⟨ns, e1, rfl⟩ := hg
    have e := ra.bools e1
    subst e
    exact cr_any hc pins s σ H _ us Q I r ⟨a, ns, rfl, .of (hs _ _ ha), k.here hs (.bl _)⟩
  · cases hg
theorem cr_listD : CallR X (.type "list") (rBltD X.K .list) := by
  intro pins s σ H xs us Q I r h
  obtain ⟨H0, ds, g, hs, hd, hg, k⟩ := h
  have hg : listV ds = some g := hg
  unfold listV at hg
  split at hg
  · cases hg
    obtain ⟨x, rfl, hx⟩ := one_inv hd
    obtain ⟨a, ys, rfl, ha, ra⟩ := hx.list_inv
    exact call_list_of pins s σ H _ us Q I r ⟨a, ys, rfl, .inl (.of (hs _ _ ha)), fun p hp => k.newL hs hp ra⟩
  · cases hg
    obtain ⟨x, rfl, hx⟩ := one_inv hd
    obtain ⟨a, ys, rfl, ha, ra⟩ := hx.tup_inv
    exact call_list_of pins s σ H _ us Q I r ⟨a, ys, rfl, .inr (.of (hs _ _ ha)), fun p hp => k.newL hs hp ra⟩
  · cases hg
theorem cr_tupleD : CallR X (.type "tuple") (rBltD X.K .tuple) := by
  intro pins s σ H xs us Q I r h
  obtain ⟨H0, ds, g, hs, hd, hg, k⟩ := h
  have hg : tupleV ds = some g := hg
  unfold tupleV at hg
  split at hg
  · cases hg
    obtain ⟨x, rfl, hx⟩ := one_inv hd
    obtain ⟨a, ys, rfl, ha, ra⟩ := hx.list_inv
    exact call_tuple_of pins s σ H _ us Q I r ⟨a, ys, rfl, .inl ⟨.of (hs _ _ ha), fun p hp => k.newT hs hp ra⟩⟩
  · cases hg
    obtain ⟨x, rfl, hx⟩ := one_inv hd
    obtain ⟨a, ys, rfl, ha, ra⟩ := hx.tup_inv
    exact call_tuple_of pins s σ H _ us Q I r ⟨a, ys, rfl, .inr ⟨.of (hs _ _ ha), k.here hs (.tup ha ra)⟩⟩
  · cases hg
end
end Eng
set_option maxRecDepth 100000
set_option maxHeartbeats 4000000
/-! EngD: the written expression against the engine's syntax; soundness of the evaluator. -/
namespace Eng
open PySem PySem.Spec PyProof.Rows L2

/-! ### what is run, by its end -/
def SE (X : Cx) (e : Expr) (σ : L2.St) (H : Hp) (Q : VK) : Prop := ∀ (pins : List (Addr × Obj)) (s : Shared), L2.Inv X pins σ H s → wpAny (model X.prog X.w) X.A (eval e X.env) (EP X pins σ Q) X.xe s
def ST (X : Cx) (e : Expr) (σ : L2.St) (H : Hp) (Q : Bool → Hp → Prop) : Prop := ∀ (pins : List (Addr × Obj)) (s : Shared), L2.Inv X pins σ H s → wpAny (model X.prog X.w) X.A (isTrue e X.env (eval e X.env)) (TP X pins σ Q) X.xe s
def SA (X : Cx) (es : List Expr) (σ : L2.St) (H : Hp) (Q : List V → Hp → Prop) : Prop := ∀ (pos : Pos) (pins : List (Addr × Obj)) (s : Shared), L2.Inv X pins σ H s → wpAny (model X.prog X.w) X.A (spliced (backTo pos (starEach es X.env))) (AP X pins σ Q) X.xe s
section
variable {X : Cx} {e : Expr} {es : List Expr} {σ : L2.St} {H : Hp}
theorem se_pe : PE X e (fun σ H Q => SE X e σ H Q) := ⟨fun pins s _ _ _ I h => h pins s I⟩
theorem st_pt : PT X e (fun σ H Q => ST X e σ H Q) := ⟨fun pins s _ _ _ I h => h pins s I⟩
theorem sa_pa : PA X es (fun σ H Q => SA X es σ H Q) := ⟨fun pos pins s _ _ _ I h => h pos pins s I⟩
theorem se_of {t : TE} {Q : VK} (h : PE X e t) (q : t σ H Q) : SE X e σ H Q := fun pins s I => h.run pins s σ H Q I q
theorem st_of {t : TT} {Q : Bool → Hp → Prop} (h : PT X e t) (q : t σ H Q) : ST X e σ H Q := fun pins s I => h.run pins s σ H Q I q
theorem sa_of {t : TA} {Q : List V → Hp → Prop} (h : PA X es t) (q : t σ H Q) : SA X es σ H Q := fun pos pins s I => h.run pos pins s σ H Q I q
end

/-! ### what is known where code runs -/
structure Prg where
  /-- builtin names that the module leaves alone -/
  free : List Str
  /-- the module's int constants -/
  cons : List (Str × Int)
  /-- defs that are called with these keywords behind the positional arguments -/
  kws : List (Str × List Str × List Nat)
  /-- the slots' names -/
  N : List Str
  c : CallD
def KdA (K : PySem.W.Frag) (H0 H : Hp) (ds : List D) (Q : List V → Hp → Prop) : Prop := ∀ vs H0' H', Gr H0 H H0' H' → RpAll K H0' vs ds → Q vs H'
def KdT (H0 H : Hp) (b : Bool) (Q : Bool → Hp → Prop) : Prop := ∀ H0' H', Gr H0 H H0' H' → Q b H'
/-- f hands back d for ds, wherever these stand -/
structure Hands (X : Cx) (f : Str) (ds : List D) (d : D) (ks : Option (List Str × List Nat)) : Prop where
  ex : ∃ (fa : Addr) (fd : FuncData) (ps : List Str) (sp : Sp) (k : Nat), X.mg f = some (.ref fa) ∧ PySem.W.keepIn X.K (.ref fa) = true ∧ Binds X.K fd ps [] ∧
    FnOk X.prog X.w X.K X.mg X.base CX0 k fa fd ps sp ∧ Room k X.A ∧ (f == ("__debug__" : Str)) = false ∧
    (∀ l, ks = some l → KBinds X.K fd ps l.1 (permK l.1.length l.2) (permK l.1.length l.2)) ∧
    ∀ (vs : List V) (H0 H : Hp) (Q : VK), Same H0 H → RpAll X.K H0 vs ds → Kd X.K H0 H d Q → sp vs H Q E0
structure XOk (P : Prg) (X : Cx) (sc : Scope) : Prop where
  hN : X.N = P.N
  nd : P.N.Nodup
  sc : X.env.scope = sc
  calm : X.calm = true
  hu : X.A.units + 65 < cLine
  free : ∀ x ∈ P.free, X.mg x = none
  cons : ∀ x i, (x, i) ∈ P.cons → ∃ t, X.mg x = some (.int i t)
  call : ∀ f ds d, P.c f ds = some d → Hands X f ds d none
  callk : ∀ f ks, (f, ks) ∈ P.kws → ∀ ds d, P.c f ds = some d → Hands X f ds d (some ks)
structure DRep (K : PySem.W.Frag) (σ : L2.St) (H : Hp) (env : DEnv) : Prop where
  len : σ.length = env.length
  at_ : ∀ i d, look env i = some d → ∃ v, σ[i]? = some (some v) ∧ Rp K H v d
theorem DRep.mono {K : PySem.W.Frag} {σ : L2.St} {H H' : Hp} {env : DEnv} (r : DRep K σ H env) (h : Same H H') : DRep K σ H' env := ⟨r.len, fun i d e => by
  obtain ⟨v, a, b⟩ := r.at_ i d e
  exact ⟨v, a, b.mono h⟩⟩

/-! ### the written text against the engine's syntax -/
def visB (sc : Scope) (x : Str) : Bool := (match sc.names.lookup x with | some .local => true | some .cell => true | some .free => true | _ => false) && !(x == ("__debug__" : Str)) && !(x == ("__classdict__" : Str))
def glB (sc : Scope) (x : Str) : Bool := (match sc.names.lookup x with | some .globalImplicit => true | _ => false) && !(x == ("__debug__" : Str))
def plainB : Expr → Bool
  | .Starred _ _ => false
  | .Call _ _ _ _ => true
  | _ => true
/-- neither a slice, nor a set's display -/
def plainIxB : Expr → Bool
  | .Slice _ _ _ _ => false
  | _ => true
def noSetB : Expr → Bool
  | .Set _ _ _ => false
  | _ => true
def baseB : Expr → Bool
  | .Call _ _ _ _ => false
  | _ => true
def tstB : Expr → Bool
  | .IfExp _ _ _ _ => false
  | _ => true
def Blt.str : Blt → Str
  | .len => "len" | .abs => "abs" | .int => "int" | .max => "max" | .min => "min" | .sum => "sum" | .all => "all" | .any => "any" | .list => "list" | .tuple => "tuple"
def Blt.val : Blt → Value
  | .len => .builtin "len" | .abs => .builtin "abs" | .int => .type "int" | .max => .builtin "max" | .min => .builtin "min" | .sum => .builtin "sum" | .all => .builtin "all" | .any => .builtin "any" | .list => .type "list" | .tuple => .type "tuple"
def tgIx : Tg → List Nat
  | .one i => [i] | .two i j => [i, j] | .thr i j k => [i, j, k]
def ownOf (N : List Str) (tg : Tg) : List (Str × Nat) := (tgIx tg).map fun i => (N.getD i "", i)
/-- a name that is stored: ps, the block's own scope where it is a comprehension's -/
def storB (sc own : Scope) (x : Str) : Bool := match sc.names.lookup x with | some .local => true | some .cell => (match own.names.lookup x with | some .cell => true | _ => false) | _ => false
def nmB (N : List Str) (sc own : Scope) (i : Nat) (x : Str) : Bool := decide (N[i]? = some x) && storB sc own x
def chkTg (N : List Str) (sc own : Scope) : Tg → Expr → Bool
  | .one i, t => match t with | .Name x _ => nmB N sc own i x | _ => false
  | .two i j, t => match t with | .Tuple [.Name x _, .Name y _] _ _ => nmB N sc own i x && nmB N sc own j y | _ => false
  | .thr i j k, t => match t with | .Tuple [.Name x _, .Name y _, .Name z _] _ _ => nmB N sc own i x && nmB N sc own j y && nmB N sc own k z | _ => false
def tyB (sc : Scope) (free : List Str) (t : Ty) : Expr → Bool
  | .Name x _ => decide (x = Str.ofString t.nm) && glB sc x && free.contains x
  | _ => false
def tysB (sc : Scope) (free : List Str) : List Ty → List Expr → Bool
  | [], [] => true
  | t :: ts, e :: es => tyB sc free t e && tysB sc free ts es
  | _, _ => false
def isOmt : E → Bool
  | .omt => true
  | _ => false
def kwB : List Keyword → List Str → Bool
  | [], [] => true
  | ⟨some n, _, _⟩ :: r, k :: ks => decide (n = k) && kwB r ks
  | _, _ => false
def kwE : List Keyword → List Expr
  | [] => []
  | ⟨_, e, _⟩ :: r => e :: kwE r
mutual
def chkE (P : Prg) : E → Scope → Expr → Bool
  | .non, _, x => match x with | .Constant .none _ _ => true | _ => false
  | .bl b, _, x => match x with | .Constant (.bool c) _ _ => c == b | _ => false
  | .int i, _, x => match x with | .Constant (.int j) _ _ => decide (j = i) | _ => false
  | .str s, _, x => match x with | .Constant (.str t) _ _ => decide (t = s) | _ => false
  | .var i, sc, x => match x with | .Name n _ => decide (P.N[i]? = some n) && visB sc n | _ => false
  | .con n i, sc, x => match x with | .Name m _ => decide (m = n) && glB sc m && P.cons.contains (n, i) | _ => false
  | .lst es, sc, x => match x with | .List xs _ => chkEs P es sc xs | _ => false
  | .tup es, sc, x => match x with | .Tuple xs _ _ => chkEs P es sc xs | _ => false
  | .bin o a b, sc, x => match x with | .BinOp l o' r _ => decide (o' = o) && chkE P a sc l && chkE P b sc r | _ => false
  | .neg a, sc, x => match x with | .UnaryOp .USub v _ => chkE P a sc v | _ => false
  | .cmp o a b, sc, x => match x with | .Compare l [o'] [r] _ => decide (o' = o) && !behindInMarks o r && chkE P a sc l && chkE P b sc r | _ => false
  | .chn o o' a b d, sc, x => match x with | .Compare l [p, p'] [r, r'] _ => decide (p = o) && decide (p' = o') && !lastMarks [o, o'] [r, r'] && chkE P a sc l && chkE P b sc r && chkE P d sc r' | _ => false
  | .bop k es, sc, x => match x with | .BoolOp op vs _ => decide (op = if k then BoolOp.And else BoolOp.Or) && vs.all tstB && chkEs P es sc vs | _ => false
  | .not a, sc, x => match x with | .UnaryOp .Not v _ => tstB v && chkE P a sc v | _ => false
  | .ifx t a b, sc, x => match x with | .IfExp t' a' b' _ => tstB t' && chkE P t sc t' && chkE P a sc a' && chkE P b sc b' | _ => false
  | .idx a i, sc, x => match x with | .Subscript v j _ => plainIxB j && chkE P a sc v && chkE P i sc j | _ => false
  | .slc a lo hi, sc, x => match x with | .Subscript v (.Slice l h none _) _ => chkE P a sc v && ((isOmt lo == l.isNone) && (match l with | none => true | some l' => chkE P lo sc l')) && ((isOmt hi == h.isNone) && (match h with | none => true | some h' => chkE P hi sc h')) | _ => false
  | .omt, _, _ => false
  | .lc elt tg it, sc, x => match x with
    | .ListComp e [⟨t, i, [], 0⟩] sc' _ => noSetB i && blkC P.N sc sc' (ownOf P.N tg) && chkTg P.N (relS sc' sc) sc' tg t && chkIt P it sc t i && chkE P elt (relS sc' sc) e
    | _ => false
  | .lcc elt tg it cnd, sc, x => match x with
    | .ListComp e [⟨t, i, [q], 0⟩] sc' _ => noSetB i && blkC P.N sc sc' (ownOf P.N tg) && chkTg P.N (relS sc' sc) sc' tg t && chkIt P it sc t i && tstB q && chkE P cnd (relS sc' sc) q && chkE P elt (relS sc' sc) e
    | _ => false
  | .call f es, sc, x => match x with | .Call (.Name n _) as [] _ => decide (n = f) && glB sc n && chkEs P es sc as | _ => false
  | .callk f es ks pm, sc, x => match x with | .Call (.Name n _) [] kws _ => decide (n = f) && glB sc n && P.kws.contains (f, ks, pm) && kwB kws ks && chkEs P es sc (kwE kws) | _ => false
  | .blt b es, sc, x => match x with | .Call (.Name n _) as [] _ => decide (n = b.str) && glB sc n && P.free.contains n && !as.isEmpty && chkEs P es sc as | _ => false
  | .isi a ts, sc, x => match x with
    | .Call (.Name n _) [v, .Name y _] [] _ => decide (n = "isinstance") && glB sc n && P.free.contains n && plainB v && chkE P a sc v && tysB sc P.free ts [.Name y ⟨0, 0, 0, 0⟩]
    | .Call (.Name n _) [v, .Tuple ys _ _] [] _ => decide (n = "isinstance") && glB sc n && P.free.contains n && plainB v && chkE P a sc v && tysB sc P.free ts ys && decide (ts.length ≤ 8)
    | _ => false
  | .lenset a, sc, x => match x with
    | .Call (.Name n _) [.Call (.Name m _) [v] [] _] [] _ => decide (n = "len") && glB sc n && P.free.contains n && decide (m = "set") && glB sc m && P.free.contains m && plainB v && chkE P a sc v
    | _ => false
  | .lrng a, sc, x => match x with
    | .Call (.Name n _) [.Call (.Name m _) [v] [] _] [] _ => decide (n = "list") && glB sc n && P.free.contains n && decide (m = "range") && glB sc m && P.free.contains m && plainB v && chkE P a sc v
    | _ => false
  | .bits a, sc, x => match x with | .Call (.Attribute v n p) [] [] q => decide (n = "bit_length") && decide (p.endLine = q.line) && baseB v && chkE P a sc v | _ => false
  | .index a b, sc, x => match x with | .Call (.Attribute v n p) [u] [] q => decide (n = "index") && decide (p.endLine = q.line) && baseB v && plainB u && chkE P a sc v && chkE P b sc u | _ => false
def chkEs (P : Prg) : Es → Scope → List Expr → Bool
  | .nil, _, xs => match xs with | [] => true | _ => false
  | .cons e es, sc, xs => match xs with | x :: r => plainB x && chkE P e sc x && chkEs P es sc r | _ => false
def chkIt (P : Prg) : It → Scope → Expr → Expr → Bool
  | .seq e, sc, _, x => chkE P e sc x
  | .rng1 a, sc, _, x => match x with | .Call (.Name n _) [v] [] _ => decide (n = "range") && glB sc n && P.free.contains n && plainB v && chkE P a sc v | _ => false
  | .rng2 a b, sc, _, x => match x with | .Call (.Name n _) [v, u] [] _ => decide (n = "range") && glB sc n && P.free.contains n && plainB v && plainB u && chkE P a sc v && chkE P b sc u | _ => false
  | .enm e, sc, t, x => match x, t with | .Call (.Name n _) [v] [] _, .Tuple _ _ _ => decide (n = "enumerate") && glB sc n && P.free.contains n && plainB v && chkE P e sc v | _, _ => false
end
end Eng
set_option maxRecDepth 100000
set_option maxHeartbeats 4000000
/-! EngE: soundness of the evaluator, construct by construct. -/
namespace Eng
open PySem PySem.Spec PyProof.Rows L2
variable {P : Prg}
def VOk (P : Prg) (e : E) : Prop := ∀ {X : Cx} {sc : Scope} {x : Expr} {env : DEnv} {d : D} {σ : L2.St} {H0 H : Hp} {Q : VK}, XOk P X sc → chkE P e sc x = true → evV P.c e env = some d → Same H0 H → DRep X.K σ H0 env → Kd X.K H0 H d Q → SE X x σ H Q
def TOk (P : Prg) (e : E) : Prop := ∀ {X : Cx} {sc : Scope} {x : Expr} {env : DEnv} {d : D} {b : Bool} {σ : L2.St} {H0 H : Hp} {Q : Bool → Hp → Prop}, XOk P X sc → chkE P e sc x = true → tstB x = true → evV P.c e env = some d → truth d = some b →
  Same H0 H → DRep X.K σ H0 env → KdT H0 H b Q → ST X x σ H Q
def EsOk (P : Prg) (es : Es) : Prop := ∀ {X : Cx} {sc : Scope} {xs : List Expr} {env : DEnv} {ds : List D} {σ : L2.St} {H0 H : Hp} {Q : List V → Hp → Prop}, XOk P X sc → chkEs P es sc xs = true → evVs P.c es env = some ds → Same H0 H → DRep X.K σ H0 env → KdA X.K H0 H ds Q → SA X xs σ H Q
/-- and, or: as a value, as a test -/
def BOk (P : Prg) (es : Es) : Prop := ∀ {X : Cx} {sc : Scope} {xs : List Expr} {env : DEnv} {d : D} {k : Bool} {σ : L2.St} {H0 H : Hp} {pos : Pos}, XOk P X sc → xs.all tstB = true → chkEs P es sc xs = true → evBop P.c k es env = some d → Same H0 H → DRep X.K σ H0 env →
  (∀ Q, Kd X.K H0 H d Q → SE X (.BoolOp (if k then .And else .Or) xs pos) σ H Q) ∧
  (∀ b Q, truth d = some b → KdT H0 H b Q → ∀ (wh : Sem Value) (pins : List (Addr × Obj)) (s : Shared), L2.Inv X pins σ H s → wpAny (model X.prog X.w) X.A (isTrue (.BoolOp (if k then .And else .Or) xs pos) X.env wh) (TP X pins σ Q) X.xe s)

theorem and3 {a b c : Bool} (h : (a && b && c) = true) : a = true ∧ b = true ∧ c = true := by
  simp only [Bool.and_eq_true] at h
  exact ⟨h.1.1, h.1.2, h.2⟩
theorem vis_of {sc : Scope} {x : Str} {X : Cx} (e : X.env.scope = sc) (h : visB sc x = true) : Vis X.env.scope x ∧ (x == ("__debug__" : Str)) = false ∧ (x == ("__classdict__" : Str)) = false := by
  unfold visB at h
  obtain ⟨h1, h2, h3⟩ := and3 h
  refine ⟨?_, by simpa using h2, by simpa using h3⟩
  rw [e]
  unfold Vis
  split at h1 <;> simp_all
theorem gl_of {sc : Scope} {x : Str} {X : Cx} (e : X.env.scope = sc) (h : glB sc x = true) : Gl X x ∧ (x == ("__debug__" : Str)) = false := by
  unfold glB at h
  obtain ⟨h1, h2⟩ := Bool.and_eq_true_iff.mp h
  refine ⟨?_, by simpa using h2⟩
  show X.env.scope.names.lookup x = some .globalImplicit
  rw [e]
  split at h1 <;> simp_all
theorem star_of {x : Expr} (h : plainB x = true) (r : List Expr) (env : Env) : starEach (x :: r) env = (false, eval x env) :: starEach r env := by
  cases x <;> first | rfl | cases h
theorem kd_of {K : PySem.W.Frag} {H0 H H0' H' : Hp} {d : D} {Q : VK} (g : Gr H0 H H0' H') (k : Kd K H0 H d Q) : Kd K H0' H' d Q := fun v a b g' r => k v a b (g.trans g') r
theorem kdT_of {H0 H H0' H' : Hp} {d : Bool} {Q : Bool → Hp → Prop} (g : Gr H0 H H0' H') (k : KdT H0 H d Q) : KdT H0' H' d Q := fun a b g' => k a b (g.trans g')

/-! ### leaves -/
theorem ok_non : VOk P .non := by
  intro X sc x env d σ H0 H Q O hc he hs hr k
  unfold chkE at hc
  split at hc
  · cases he
    exact se_of pe_non (k.here hs .non)
  · cases hc
theorem ok_bl {b} : VOk P (.bl b) := by
  intro X sc x env d σ H0 H Q O hc he hs hr k
  unfold chkE at hc
  split at hc
  · rename_i c _ _
    have e : c = b := by simpa using hc
    subst e
    cases he
    exact se_of pe_bl (k.here hs (.bl _))
  · cases hc
theorem ok_int {i} : VOk P (.int i) := by
  intro X sc x env d σ H0 H Q O hc he hs hr k
  unfold chkE at hc
  split at hc
  · have e := of_decide_eq_true hc
    subst e
    cases he
    exact se_of pe_int (k.here hs (.int _))
  · cases hc
theorem ok_str {i} : VOk P (.str i) := by
  intro X sc x env d σ H0 H Q O hc he hs hr k
  unfold chkE at hc
  split at hc
  · have e := of_decide_eq_true hc
    subst e
    cases he
    exact se_of pe_str (k.here hs (.str _))
  · cases hc
theorem ok_var {i} : VOk P (.var i) := by
  intro X sc x env d σ H0 H Q O hc he hs hr k
  unfold chkE at hc
  split at hc
  · obtain ⟨h1, h2⟩ := Bool.and_eq_true_iff.mp hc
    obtain ⟨v, a, b⟩ := vis_of O.sc h2
    obtain ⟨z, e1, e2⟩ := hr.at_ i d he
    exact se_of (pe_var (by rw [O.hN]; exact of_decide_eq_true h1) v a b) ⟨z, e1, k.here hs e2⟩
  · cases hc
theorem ok_con {n i} : VOk P (.con n i) := by
  intro X sc x env d σ H0 H Q O hc he hs hr k
  unfold chkE at hc
  split at hc
  · obtain ⟨h1, h2, h3⟩ := and3 hc
    have e := of_decide_eq_true h1
    subst e
    obtain ⟨g, gd⟩ := gl_of O.sc h2
    obtain ⟨t, em⟩ := O.cons _ _ (by simpa using h3)
    cases he
    exact se_of (pe_glob (v := .int i) g em ⟨t, rfl⟩ gd) (k.here hs (.int _))
  · cases hc
theorem ok_omt : VOk P .omt := by
  intro X sc x env d σ H0 H Q O hc
  cases hc

/-! ### displays -/
theorem ok_lst {es} (ih : EsOk P es) : VOk P (.lst es) := by
  intro X sc x env d σ H0 H Q O hc he hs hr k
  unfold chkE at hc
  split at hc
  · simp only [evV, Option.bind_eq_some_iff] at he
    obtain ⟨ds, e1, e2⟩ := he
    split at e2
    · rename_i hz
      cases e2
      refine se_of (pe_lst sa_pa) (ih O hc e1 hs hr fun vs H0' H' g r => ⟨by rw [r.length]; exact hz, fun p hp => (kd_of g k).newL g.c hp r⟩)
    · cases e2
  · cases hc
theorem ok_tup {es} (ih : EsOk P es) : VOk P (.tup es) := by
  intro X sc x env d σ H0 H Q O hc he hs hr k
  unfold chkE at hc
  split at hc
  · simp only [evV, Option.bind_eq_some_iff] at he
    obtain ⟨ds, e1, e2⟩ := he
    split at e2
    · rename_i hz
      cases e2
      refine se_of (pe_tup sa_pa) (ih O hc e1 hs hr fun vs H0' H' g r => ⟨by rw [r.length]; exact hz, fun p hp => (kd_of g k).newT g.c hp r⟩)
    · cases e2
  · cases hc
theorem ok_nil : EsOk P .nil := by
  intro X sc xs env ds σ H0 H Q O hc he hs hr k
  unfold chkEs at hc
  split at hc
  · cases he
    exact sa_of pa_nil (k [] H0 H (Gr.refl hs) .nil)
  · cases hc
theorem ok_cons {e es} (ie : VOk P e) (ih : EsOk P es) : EsOk P (.cons e es) := by
  intro X sc xs env ds σ H0 H Q O hc he hs hr k
  unfold chkEs at hc
  split at hc
  · obtain ⟨h1, h2, h3⟩ := and3 hc
    simp only [evVs, Option.bind_eq_some_iff] at he
    obtain ⟨d, e1, ds', e2, e3⟩ := he
    cases e3
    refine sa_of (pa_cons se_pe sa_pa (star_of h1 _ _)) (ie O h2 e1 hs hr fun v H0' H' g r => ih O h3 e2 g.c (hr.mono g.b) fun vs H0'' H'' g' r' => k _ _ _ (g.trans g') (.cons (r.mono g'.b) r'))
  · cases hc

/-! ### operators -/
theorem ok_bin {o a b} (ia : VOk P a) (ib : VOk P b) : VOk P (.bin o a b) := by
  intro X sc x env d σ H0 H Q O hc he hs hr k
  unfold chkE at hc
  split at hc
  · obtain ⟨h1, h2, h3⟩ := and3 hc
    have eo := of_decide_eq_true h1
    subst eo
    simp only [evV, Option.bind_eq_some_iff] at he
    obtain ⟨dx, e1, dy, e2, e3⟩ := he
    refine se_of (pe_op (op_binD _) se_pe se_pe) (ia O h2 e1 hs hr fun v H0' H' g r => ib O h3 e2 g.c (hr.mono g.b) fun w H0'' H'' g' r' => ?_)
    exact ⟨H0'', dx, dy, d, g'.c, r.mono g'.b, r', e3, kd_of (g.trans g') k⟩
  · cases hc
theorem ok_neg {a} (ia : VOk P a) : VOk P (.neg a) := by
  intro X sc x env d σ H0 H Q O hc he hs hr k
  unfold chkE at hc
  split at hc
  · simp only [evV, Option.bind_eq_some_iff] at he
    obtain ⟨dx, e1, e2⟩ := he
    refine se_of (pe_un un_neg se_pe) (ia O hc e1 hs hr fun v H0' H' g r => ?_)
    split at e2
    · cases e2
      cases r
      exact ⟨_, rfl, (kd_of g k).here g.c (.int _)⟩
    · cases e2
  · cases hc
theorem ok_cmp {o a b} (ia : VOk P a) (ib : VOk P b) : VOk P (.cmp o a b) := by
  intro X sc x env d σ H0 H Q O hc he hs hr k
  unfold chkE at hc
  split at hc
  · obtain ⟨h1, h2, h3⟩ := and3 hc
    obtain ⟨h0, h1⟩ := Bool.and_eq_true_iff.mp h1
    have eo := of_decide_eq_true h0
    subst eo
    simp only [evV, Option.bind_eq_some_iff] at he
    obtain ⟨dx, e1, dy, e2, e3⟩ := he
    refine se_of (pe_cmpR (op_cmpD O.hu _) se_pe se_pe (by simpa using h1)) (ia O h2 e1 hs hr fun v H0' H' g r => ib O h3 e2 g.c (hr.mono g.b) fun w H0'' H'' g' r' => ?_)
    exact ⟨H0'', dx, dy, d, g'.c, r.mono g'.b, r', e3, kd_of (g.trans g') k⟩
  · cases hc
theorem tru_bl {K : PySem.W.Frag} {H : Hp} {v : V} {d : D} {b : Bool} (r : Rp K H v d) (hd : d = .bool b) : v = .bl b := by
  subst hd
  cases r
  rfl
/-- what a comparison hands back is a bool -/
theorem cmp_bool {o : CmpOp} {d e g : D} (h : cmpV o d e = some g) : ∃ b, g = .bool b := by
  unfold cmpV at h
  repeat' (split at h)
  all_goals first
    | (cases h; exact ⟨_, rfl⟩)
    | cases h
theorem tk_cmp {o a b} (ia : VOk P a) (ib : VOk P b) : TOk P (.cmp o a b) := by
  intro X sc x env d b σ H0 H Q O hc ht he hb hs hr k
  unfold chkE at hc
  split at hc
  · obtain ⟨h1, h2, h3⟩ := and3 hc
    obtain ⟨h0, h1⟩ := Bool.and_eq_true_iff.mp h1
    have eo := of_decide_eq_true h0
    subst eo
    simp only [evV, Option.bind_eq_some_iff] at he
    obtain ⟨dx, e1, dy, e2, e3⟩ := he
    obtain ⟨b', eb⟩ := cmp_bool e3
    subst eb
    cases hb
    refine st_of (pt_cmpR (op_cmpD O.hu _) se_pe se_pe (by simpa using h1)) (ia O h2 e1 hs hr fun v H0' H' g r => ib O h3 e2 g.c (hr.mono g.b) fun w H0'' H'' g' r' => ?_)
    refine ⟨H0'', dx, dy, _, g'.c, r.mono g'.b, r', e3, fun z H3 H4 g3 r3 => ⟨b, tru_bl r3 rfl, k _ _ ((g.trans g').trans g3)⟩⟩
  · cases hc
theorem chn_bool {P : Prg} {o o' : CmpOp} {a b c : E} {env : DEnv} {d : D} (he : evV P.c (.chn o o' a b c) env = some d) : ∃ b, d = .bool b := by
  simp only [evV, Option.bind_eq_some_iff] at he
  obtain ⟨dx, e1, dy, e2, dz, e3, e4⟩ := he
  split at e4
  · simp only [Option.bind_eq_some_iff] at e4
    obtain ⟨dw, e5, e6⟩ := e4
    exact cmp_bool e6
  · cases e4
    exact ⟨_, rfl⟩
  · cases e4
theorem chn_run {o o' a b c} (ia : VOk P a) (ib : VOk P b) (ic : VOk P c) {X : Cx} {sc : Scope} {l r r' : Expr} {env : DEnv} {d : D} {σ : L2.St} {H0 H : Hp} {Q : VK} (O : XOk P X sc) (h1 : chkE P a sc l = true) (h2 : chkE P b sc r = true) (h3 : chkE P c sc r' = true)
    (he : evV P.c (.chn o o' a b c) env = some d) (hs : Same H0 H) (hr : DRep X.K σ H0 env) (k : Kd X.K H0 H d Q) : tChain (rCmpD X.K o) (rCmpD X.K o') (fun σ H Q => SE X l σ H Q) (fun σ H Q => SE X r σ H Q) (fun σ H Q => SE X r' σ H Q) σ H Q := by
  simp only [evV, Option.bind_eq_some_iff] at he
  obtain ⟨dx, e1, dy, e2, dz, e3, e4⟩ := he
  refine ia O h1 e1 hs hr fun v H0' H' g r1 => ib O h2 e2 g.c (hr.mono g.b) fun w H0'' H'' g' r2 => ?_
  refine ⟨H0'', dx, dy, dz, g'.c, r1.mono g'.b, r2, e3, fun z H3 H4 g3 r3 => ?_⟩
  have g4 := (g.trans g').trans g3
  split at e4
  · simp only [Option.bind_eq_some_iff] at e4
    obtain ⟨dw, e5, e6⟩ := e4
    refine ⟨true, tru_bl r3 rfl, ?_⟩
    rw [if_pos rfl]
    refine ic O h3 e5 g4.c (hr.mono g4.b) fun u H5 H6 g5 r5 => ?_
    exact ⟨H5, dy, dw, d, g5.c, r2.mono (g3.b.trans g5.b), r5, e6, kd_of (g4.trans g5) k⟩
  · refine ⟨false, tru_bl r3 rfl, ?_⟩
    rw [if_neg (by decide)]
    cases e4
    exact (kd_of g4 k).here g4.c (.bl _)
  · cases e4
theorem ok_chn {o o' a b c} (ia : VOk P a) (ib : VOk P b) (ic : VOk P c) : VOk P (.chn o o' a b c) := by
  intro X sc x env d σ H0 H Q O hc he hs hr k
  unfold chkE at hc
  split at hc
  · simp only [Bool.and_eq_true] at hc
    obtain ⟨⟨⟨⟨⟨q1, q2⟩, q3⟩, h1⟩, h2⟩, h3⟩ := hc
    have eo := of_decide_eq_true q1
    have eo' := of_decide_eq_true q2
    subst eo eo'
    exact se_of (pe_chain (op_cmpD O.hu _) (op_cmpD O.hu _) se_pe se_pe se_pe (by simpa using q3)) (chn_run ia ib ic O h1 h2 h3 he hs hr k)
  · cases hc
theorem tk_chn {o o' a b c} (ia : VOk P a) (ib : VOk P b) (ic : VOk P c) : TOk P (.chn o o' a b c) := by
  intro X sc x env d b σ H0 H Q O hc ht he hb hs hr k
  unfold chkE at hc
  split at hc
  · simp only [Bool.and_eq_true] at hc
    obtain ⟨⟨⟨⟨⟨q1, q2⟩, q3⟩, h1⟩, h2⟩, h3⟩ := hc
    have eo := of_decide_eq_true q1
    have eo' := of_decide_eq_true q2
    subst eo eo'
    obtain ⟨b', eb⟩ := chn_bool he
    subst eb
    cases hb
    exact st_of (pt_chain (op_cmpD O.hu _) (op_cmpD O.hu _) se_pe se_pe se_pe (by simpa using q3)) (chn_run ia ib ic O h1 h2 h3 he hs hr fun z H3 H4 g3 r3 => ⟨b, tru_bl r3 rfl, k _ _ g3⟩)
  · cases hc
/-- a test by its value's truth -/
theorem tk_val {e : E} (h : VOk P e) (hp : ∀ sc x, chkE P e sc x = true → tstB x = true → ∀ (env : Env) (wh : Sem Value), isTrue x env wh = (do let v ← wh; standAt x.pos; holding [v] (truthy v))) : TOk P e := by
  intro X sc x env d b σ H0 H Q O hc ht he hb hs hr k
  refine st_of (pt_truth se_pe (hp sc x hc ht X.env)) (h O hc he hs hr fun v H0' H' g r => ⟨b, tru_D g.c r hb, k _ _ g⟩)

/-! ### not, and, or, if -/
theorem ok_not {a} (ia : VOk P a) : VOk P (.not a) := by
  intro X sc x env d σ H0 H Q O hc he hs hr k
  unfold chkE at hc
  split at hc
  · obtain ⟨_, hc⟩ := Bool.and_eq_true_iff.mp hc
    simp only [evV, Option.bind_eq_some_iff, Option.map_eq_some_iff] at he
    obtain ⟨dx, e1, b, e2, rfl⟩ := he
    exact se_of (pe_notT se_pe) (ia O hc e1 hs hr fun v H0' H' g r => ⟨b, tru_D g.c r e2, (kd_of g k).here g.c (.bl _)⟩)
  · cases hc
theorem tk_not {a} (ta : TOk P a) : TOk P (.not a) := by
  intro X sc x env d b σ H0 H Q O hc ht he hb hs hr k
  unfold chkE at hc
  split at hc
  · obtain ⟨h0, hc⟩ := Bool.and_eq_true_iff.mp hc
    simp only [evV, Option.bind_eq_some_iff, Option.map_eq_some_iff] at he
    obtain ⟨dx, e1, b', e2, rfl⟩ := he
    cases hb
    exact st_of (pt_not st_pt) (ta O hc h0 e1 e2 hs hr fun _ _ g => k _ _ g)
  · cases hc
theorem ok_ifx {t a b} (tt : TOk P t) (ia : VOk P a) (ib : VOk P b) : VOk P (.ifx t a b) := by
  intro X sc x env d σ H0 H Q O hc he hs hr k
  unfold chkE at hc
  split at hc
  · simp only [Bool.and_eq_true] at hc
    obtain ⟨⟨⟨h0, h1⟩, h2⟩, h3⟩ := hc
    simp only [evV, Option.bind_eq_some_iff] at he
    obtain ⟨dt, e1, c, e2, e3⟩ := he
    refine se_of (pe_ifExp st_pt se_pe se_pe) (tt O h1 h0 e1 e2 hs hr fun H0' H' g => ?_)
    cases c with
    | true => exact ia O h2 e3 g.c (hr.mono g.b) (kd_of g k)
    | false => exact ib O h3 e3 g.c (hr.mono g.b) (kd_of g k)
  · cases hc
theorem bk_nil : BOk P .nil := by
  intro X sc xs env d k σ H0 H pos O ht hc he
  cases he
theorem sE_bop {X : Cx} {op : BoolOp} {a b : Expr} {rest : List Expr} {pos : Pos} : PE X (.BoolOp op (b :: rest) pos) (fun σ H Q => SE X (.BoolOp op (b :: rest) pos) σ H Q) := se_pe
theorem bk_cons {e es} (ie : VOk P e) (te : TOk P e) (ih : BOk P es) : BOk P (.cons e es) := by
  intro X sc xs env d k σ H0 H pos O ht hc he hs hr
  cases es with
  | nil =>
    have he : evV P.c e env = some d := he
    cases xs with
    | nil => cases hc
    | cons x r =>
      obtain ⟨h1, h2, h3⟩ := and3 (show (plainB x && chkE P e sc x && chkEs P .nil sc r) = true from hc)
      cases r with
      | nil =>
        have htx : tstB x = true := (Bool.and_eq_true_iff.mp ht).1
        refine ⟨fun Q q => se_of (pe_one se_pe) (ie O h2 he hs hr q), fun b Q hb q wh pins s I => ?_⟩
        have hst : ST X x σ H Q := te O h2 htx he hb hs hr q
        cases k with
        | true => exact (pw_and1 st_pt).run wh pins s σ H Q I hst
        | false => exact (pw_or1 st_pt).run wh pins s σ H Q I hst
      | cons y r => cases h3
  | cons e2 es2 =>
    simp only [evBop, Option.bind_eq_some_iff] at he
    obtain ⟨d1, e1, b1, eb1, e3⟩ := he
    cases xs with
    | nil => cases hc
    | cons x r =>
      obtain ⟨h1, h2, h3⟩ := and3 (show (plainB x && chkE P e sc x && chkEs P (.cons e2 es2) sc r) = true from hc)
      cases r with
      | nil => cases h3
      | cons y r =>
        obtain ⟨htx, htr⟩ := Bool.and_eq_true_iff.mp (show (tstB x && (y :: r).all tstB) = true from ht)
        refine ⟨fun Q q => ?_, fun b Q hb q wh pins s I => ?_⟩
        · cases k with
          | true =>
            refine se_of (pe_andT se_pe se_pe) (ie O h2 e1 hs hr fun v H0' H' g r1 => ⟨b1, tru_D g.c r1 eb1, ?_⟩)
            cases b1 with
            | true =>
              rw [if_pos rfl]
              exact (ih (k := true) O htr h3 e3 g.c (hr.mono g.b)).1 Q (kd_of g q)
            | false =>
              rw [if_neg (by decide)]
              cases e3
              exact (kd_of g q).here g.c r1
          | false =>
            refine se_of (pe_orT se_pe se_pe) (ie O h2 e1 hs hr fun v H0' H' g r1 => ⟨b1, tru_D g.c r1 eb1, ?_⟩)
            cases b1 with
            | false =>
              rw [if_neg (by decide)]
              exact (ih (k := false) O htr h3 e3 g.c (hr.mono g.b)).1 Q (kd_of g q)
            | true =>
              rw [if_pos rfl]
              cases e3
              exact (kd_of g q).here g.c r1
        · cases k with
          | true =>
            refine isTrue_and (thn (te (Q := fun c H2 => c = b1 ∧ ∃ H02, Gr H0 H H02 H2) O h2 htx e1 eb1 hs hr (fun H0' H' g => ⟨rfl, H0', g⟩) pins s I) fun c s1 ⟨H1, I1, ec, H01, g⟩ => ?_)
            rw [ec]
            cases b1 with
            | true =>
              rw [if_pos rfl]
              exact (ih (k := true) O htr h3 e3 g.c (hr.mono g.b)).2 b Q hb (kdT_of g q) wh pins s1 I1
            | false =>
              rw [if_neg (by decide)]
              cases e3
              rw [eb1] at hb
              cases hb
              exact ⟨H1, I1, q _ _ g⟩
          | false =>
            refine isTrue_or (thn (te (Q := fun c H2 => c = b1 ∧ ∃ H02, Gr H0 H H02 H2) O h2 htx e1 eb1 hs hr (fun H0' H' g => ⟨rfl, H0', g⟩) pins s I) fun c s1 ⟨H1, I1, ec, H01, g⟩ => ?_)
            rw [ec]
            cases b1 with
            | false =>
              rw [if_neg (by decide)]
              exact (ih (k := false) O htr h3 e3 g.c (hr.mono g.b)).2 b Q hb (kdT_of g q) wh pins s1 I1
            | true =>
              rw [if_pos rfl]
              cases e3
              rw [eb1] at hb
              cases hb
              exact ⟨H1, I1, q _ _ g⟩
theorem ok_bop {k es} (ih : BOk P es) : VOk P (.bop k es) := by
  intro X sc x env d σ H0 H Q O hc he hs hr q
  unfold chkE at hc
  split at hc
  · obtain ⟨h1, h2, h3⟩ := and3 hc
    have eo := of_decide_eq_true h1
    subst eo
    exact (ih (k := k) O h2 h3 he hs hr).1 Q q
  · cases hc
theorem tk_bop {k es} (ih : BOk P es) : TOk P (.bop k es) := by
  intro X sc x env d b σ H0 H Q O hc ht he hb hs hr q
  unfold chkE at hc
  split at hc
  · obtain ⟨h1, h2, h3⟩ := and3 hc
    have eo := of_decide_eq_true h1
    subst eo
    exact fun pins s I => (ih (k := k) O h2 h3 he hs hr).2 b Q hb q _ pins s I
  · cases hc

/-! ### subscripts -/
theorem plainIx_of {j : Expr} (h : plainIxB j = true) : PlainIx j := by
  intro o i
  cases j <;> first | rfl | cases h
theorem ok_idx {a i} (ia : VOk P a) (ii : VOk P i) : VOk P (.idx a i) := by
  intro X sc x env d σ H0 H Q O hc he hs hr k
  unfold chkE at hc
  split at hc
  · obtain ⟨h1, h2, h3⟩ := and3 hc
    simp only [evV, Option.bind_eq_some_iff] at he
    obtain ⟨dx, e1, dy, e2, e3⟩ := he
    refine se_of (pe_ix ix_D se_pe se_pe (plainIx_of h1)) (ia O h2 e1 hs hr fun v H0' H' g r => ii O h3 e2 g.c (hr.mono g.b) fun w H0'' H'' g' r' => ?_)
    exact ⟨H0'', dx, dy, d, g'.c, r.mono g'.b, r', e3, kd_of (g.trans g') k⟩
  · cases hc
/-- a part of a slice -/
theorem part_ok {e : E} (ih : VOk P e) {X : Cx} {sc : Scope} {o : Option Expr} {env : DEnv} {r : Option Int} {σ : L2.St} {H0 H : Hp} {Q : Option Int → Hp → Prop} (O : XOk P X sc)
    (hc : ((isOmt e == o.isNone) && (match o with | none => true | some l' => chkE P e sc l')) = true) (he : partE e (evV P.c e env) = some r) (hs : Same H0 H) (hr : DRep X.K σ H0 env)
    (k : ∀ H0' H', Gr H0 H H0' H' → Q r H') : ∃ t, PO X o t ∧ t σ H Q := by
  have gen : ∀ l, o = some l → chkE P e sc l = true → (evV P.c e env).bind partV = some r → ∃ t, PO X o t ∧ t σ H Q := fun l eo hcl he => by
    subst eo
    simp only [Option.bind_eq_some_iff] at he
    obtain ⟨d, e1, e2⟩ := he
    refine ⟨_, po_some se_pe, ih O hcl e1 hs hr fun v H0' H' g q => ?_⟩
    unfold partV at e2
    split at e2
    · cases e2
      cases q
      exact ⟨_, rfl, k _ _ g⟩
    · cases e2
  obtain ⟨h1, h2⟩ := Bool.and_eq_true_iff.mp hc
  cases o with
  | none =>
    cases e <;> first | cases h1 | skip
    cases he
    exact ⟨_, po_none, k H0 H (Gr.refl hs)⟩
  | some l =>
    cases e <;> first
      | exact gen l rfl h2 he
      | cases h1
theorem ok_slc {a lo hi} (ia : VOk P a) (il : VOk P lo) (ih : VOk P hi) : VOk P (.slc a lo hi) := by
  intro X sc x env d σ H0 H Q O hc he hs hr k
  unfold chkE at hc
  split at hc
  · obtain ⟨h1, h2, h3⟩ := and3 hc
    simp only [evV, Option.bind_eq_some_iff] at he
    obtain ⟨dx, e1, l, e2, h, e3, e4⟩ := he
    refine fun pins s I => ?_
    refine (pe_slice (tl := fun σ H Q => ∃ t, PO X _ t ∧ t σ H Q) (th := fun σ H Q => ∃ t, PO X _ t ∧ t σ H Q) sl_D se_pe ⟨fun pins s σ H Q I ⟨t, p, q⟩ => p.run pins s σ H Q I q⟩ ⟨fun pins s σ H Q I ⟨t, p, q⟩ => p.run pins s σ H Q I q⟩).run pins s σ H Q I ?_
    refine ia O h1 e1 hs hr fun v H0' H' g r => ?_
    refine part_ok il O h2 e2 g.c (hr.mono g.b) fun H1' H1 g1 => ?_
    refine part_ok ih O h3 e3 g1.c ((hr.mono g.b).mono g1.b) fun H2' H2 g2 => ?_
    exact ⟨H2', dx, d, g2.c, (r.mono g1.b).mono g2.b, e4, kd_of ((g.trans g1).trans g2) k⟩
  · cases hc
end Eng
set_option maxRecDepth 100000
set_option maxHeartbeats 4000000
/-! EngF: targets, what is walked, comprehensions, calls; the evaluator's soundness as a whole. -/
namespace Eng
open PySem PySem.Spec PyProof.Rows L2
variable {P : Prg}

/-! ### targets -/
def setAll : L2.St → List Nat → List V → L2.St
  | σ, i :: is, v :: vs => setAll (σ.set i (some v)) is vs
  | σ, _, _ => σ
def setAllD : DEnv → List Nat → List D → DEnv
  | σ, i :: is, v :: vs => setAllD (σ.set i (some v)) is vs
  | σ, _, _ => σ
def gTg (K : PySem.W.Frag) : Tg → TG
  | .one i => gName i
  | .two i j => gTup K 2 (gCons (gName i) (gCons (gName j) gNil))
  | .thr i j k => gTup K 3 (gCons (gName i) (gCons (gName j) (gCons (gName k) gNil)))
theorem nm_of {N : List Str} {sc own : Scope} {i : Nat} {x : Str} {X : Cx} (eN : X.N = N) (es : X.env.scope = sc) (hf : ∀ y, own.names.lookup y = some .cell → X.fn y = true) (h : nmB N sc own i x = true) :
    X.N[i]? = some x ∧ L2.Loc X.env.scope x ∧ (X.fn x = true ∨ X.env.scope.names.lookup x = some .local) := by
  unfold nmB at h
  obtain ⟨h1, h2⟩ := Bool.and_eq_true_iff.mp h
  rw [eN, es]
  refine ⟨of_decide_eq_true h1, ?_⟩
  unfold storB at h2
  unfold L2.Loc
  split at h2
  · rename_i e
    exact ⟨.inl e, .inr e⟩
  · rename_i e
    refine ⟨.inr e, .inl (hf x ?_)⟩
    split at h2
    · rename_i e2
      exact e2
    · cases h2
  · cases h2
theorem pg_tg {sc own : Scope} {tg : Tg} {t : Expr} {X : Cx} (nd : X.N.Nodup) (hc : X.calm = true) (eN : X.N = P.N) (es : X.env.scope = sc) (hf : ∀ y, own.names.lookup y = some .cell → X.fn y = true) (h : chkTg P.N sc own tg t = true) : PG X t (gTg X.K tg) := by
  cases tg with
  | one i =>
    simp only [chkTg] at h
    split at h
    · obtain ⟨a, b, c⟩ := nm_of eN es hf h
      exact pg_name nd a b c
    · cases h
  | two i j =>
    simp only [chkTg] at h
    split at h
    · obtain ⟨h1, h2⟩ := Bool.and_eq_true_iff.mp h
      obtain ⟨a, b, c⟩ := nm_of eN es hf h1
      obtain ⟨a', b', c'⟩ := nm_of eN es hf h2
      exact pg_tup hc (pgs_cons (pg_name nd a b c) (pgs_cons (pg_name nd a' b' c') pgs_nil))
    · cases h
  | thr i j k =>
    simp only [chkTg] at h
    split at h
    · obtain ⟨h1, h2, h3⟩ := and3 h
      obtain ⟨a, b, c⟩ := nm_of eN es hf h1
      obtain ⟨a', b', c'⟩ := nm_of eN es hf h2
      obtain ⟨a2, b2, c2⟩ := nm_of eN es hf h3
      exact pg_tup hc (pgs_cons (pg_name nd a b c) (pgs_cons (pg_name nd a' b' c') (pgs_cons (pg_name nd a2 b2 c2) pgs_nil)))
    · cases h
theorem drep_set {K : PySem.W.Frag} {σ : L2.St} {H : Hp} {env : DEnv} {v : V} {d : D} (i : Nat) (r : DRep K σ H env) (h : Rp K H v d) : DRep K (σ.set i (some v)) H (env.set i (some d)) := by
  refine ⟨by rw [List.length_set, List.length_set]; exact r.len, fun j e he => ?_⟩
  unfold look at he
  by_cases q : i = j
  · subst q
    by_cases hi : i < env.length
    · rw [List.getElem?_set_self hi] at he
      cases he
      exact ⟨v, by rw [List.getElem?_set_self (by rw [r.len]; exact hi)], h⟩
    · rw [List.getElem?_eq_none (by rw [List.length_set]; omega)] at he
      cases he
  · rw [List.getElem?_set_ne q] at he
    rw [List.getElem?_set_ne q]
    exact r.at_ j e he
theorem drep_all {K : PySem.W.Frag} {H : Hp} : ∀ {is : List Nat} {vs : List V} {ds : List D} {σ : L2.St} {env : DEnv}, DRep K σ H env → RpAll K H vs ds → DRep K (setAll σ is vs) H (setAllD env is ds)
  | [], _, _, _, _, r, _ => by
    simp only [setAll, setAllD]
    exact r
  | _ :: _, _, _, _, _, r, .nil => by
    simp only [setAll, setAllD]
    exact r
  | i :: is, _, _, _, _, r, .cons h t => by
    simp only [setAll, setAllD]
    exact drep_all (drep_set i r h) t
/-- the data that a target's slots take -/
def tgVals : Tg → D → Option (List D)
  | .one _, d => some [d]
  | .two _ _, .tuple [a, b] => some [a, b]
  | .thr _ _ _, .tuple [a, b, c] => some [a, b, c]
  | _, _ => none
theorem bindD_eq (tg : Tg) (d : D) (env : DEnv) : bindD tg d env = (tgVals tg d).map (setAllD env (tgIx tg)) := by
  unfold bindD tgVals
  split <;> first
    | rfl
    | (rename_i h1 h2 h3
       split <;> first
         | rfl
         | (exact absurd rfl (h1 _))
         | (exact absurd rfl (h2 _ _ _ _ rfl))
         | (exact absurd rfl (h3 _ _ _ _ _ _ rfl)))
theorem gTg_ok {K : PySem.W.Frag} {tg : Tg} {v : V} {d : D} {ds : List D} {σ : L2.St} {H0 H : Hp} {Q : L2.St → Hp → Prop} (hs : Same H0 H) (r : Rp K H0 v d) (e : tgVals tg d = some ds) (q : ∀ vs, RpAll K H0 vs ds → vs.length = (tgIx tg).length → Q (setAll σ (tgIx tg) vs) H) : gTg K tg v σ H Q := by
  unfold tgVals at e
  split at e
  · cases e
    exact q [v] (.cons r .nil) rfl
  · cases e
    obtain ⟨a, xs, rfl, ha, ra⟩ := r.tup_inv
    obtain ⟨x, y, rfl, rx, ry⟩ := two_inv ra
    exact ⟨a, _, rfl, .of (hs _ _ ha), rfl, x, _, rfl, y, _, rfl, rfl, q [x, y] ra rfl⟩
  · cases e
    obtain ⟨a, xs, rfl, ha, ra⟩ := r.tup_inv
    cases ra with
    | cons rx rr =>
      obtain ⟨y, z, rfl, ry, rz⟩ := two_inv rr
      exact ⟨a, _, rfl, .of (hs _ _ ha), rfl, _, _, rfl, y, _, rfl, z, _, rfl, rfl, q [_, y, z] (.cons rx rr) rfl⟩
  · cases e
theorem setAll_length : ∀ (is : List Nat) (vs : List V) (σ : L2.St), (setAll σ is vs).length = σ.length
  | [], _, _ => rfl
  | _ :: _, [], _ => rfl
  | i :: is, v :: vs, σ => by
    simp only [setAll]
    rw [setAll_length is vs, List.length_set]
theorem setAll_out : ∀ (is : List Nat) (vs : List V) (σ : L2.St) (j : Nat), j ∉ is → (setAll σ is vs)[j]? = σ[j]?
  | [], _, _, _, _ => rfl
  | _ :: _, [], _, _, _ => rfl
  | i :: is, v :: vs, σ, j, h => by
    simp only [setAll]
    rw [setAll_out is vs _ j (fun z => h (List.mem_cons_of_mem _ z)), List.getElem?_set_ne (fun e => h (by rw [e]; exact List.mem_cons_self))]
theorem wipe_get (σ : L2.St) : ∀ (vs : List Nat) (j : Nat), (wipe σ vs)[j]? = if j ∈ vs then (if j < σ.length then some none else none) else σ[j]?
  | [], j => by simp [wipe]
  | v :: vs, j => by
    unfold wipe
    by_cases q : v = j
    · subst q
      rw [if_pos List.mem_cons_self]
      by_cases h : v < σ.length
      · rw [if_pos h, List.getElem?_set_self (by rw [wipe_length]; exact h)]
      · rw [if_neg h, List.getElem?_eq_none (by rw [List.length_set, wipe_length]; omega)]
    · rw [List.getElem?_set_ne q, wipe_get σ vs j]
      have e : (j ∈ v :: vs) = (j ∈ vs) := by
        simp only [List.mem_cons, eq_iff_iff]
        exact ⟨fun z => z.elim (fun y => absurd y.symm q) id, .inr⟩
      simp only [e]
theorem wipe_setAll (σ : L2.St) (is : List Nat) (vs : List V) : wipe (setAll (wipe σ is) is vs) is = wipe σ is := by
  refine List.ext_getElem? fun j => ?_
  rw [wipe_get, wipe_get, setAll_length, wipe_length]
  by_cases h : j ∈ is
  · rw [if_pos h, if_pos h]
  · rw [if_neg h, if_neg h, setAll_out is vs _ j h, wipe_get, if_neg h]
/-- wiped slots that are all stored again -/
theorem setAll_wipe : ∀ (is : List Nat) (vs : List V) (σ : L2.St), vs.length = is.length → setAll (wipe σ is) is vs = setAll σ is vs := by
  have key : ∀ (is : List Nat) (vs : List V) (σ τ : L2.St), vs.length = is.length → σ.length = τ.length → (∀ j, j ∉ is → σ[j]? = τ[j]?) → setAll σ is vs = setAll τ is vs := by
    intro is
    induction is with
    | nil =>
      intro vs σ τ _ _ h
      simp only [setAll]
      exact List.ext_getElem? fun j => h j List.not_mem_nil
    | cons i is ih =>
      intro vs σ τ hl hn h
      cases vs with
      | nil => cases hl
      | cons v vs =>
        simp only [setAll]
        refine ih vs _ _ (Nat.succ.inj hl) (by rw [List.length_set, List.length_set]; exact hn) fun j hj => ?_
        by_cases q : i = j
        · subst q
          by_cases hi : i < σ.length
          · rw [List.getElem?_set_self hi, List.getElem?_set_self (by omega)]
          · rw [List.getElem?_eq_none (by rw [List.length_set]; omega), List.getElem?_eq_none (by rw [List.length_set]; omega)]
        · rw [List.getElem?_set_ne q, List.getElem?_set_ne q]
          exact h j fun z => (List.mem_cons.mp z).elim (fun y => q y.symm) hj
  intro is vs σ hl
  refine key is vs _ _ hl (wipe_length σ is) fun j hj => ?_
  rw [wipe_get, if_neg hj]

/-! ### what is walked -/
def SI (X : Cx) (tg iter : Expr) (σ : L2.St) (H : Hp) (R : L2.It → Hp → Prop) : Prop := ∀ (pins : List (Addr × Obj)) (s : Shared), L2.Inv X pins σ H s →
  wpAny (model X.prog X.w) X.A (eval iter X.env) (fun v s1 => wpAny (model X.prog X.w) X.A (pyIter v) (PIE X pins σ tg R) X.xe s1) X.xe s
theorem si_pi {X : Cx} {tg iter : Expr} : PI X tg iter (fun σ H R => SI X tg iter σ H R) := ⟨fun pins s _ _ _ I h => h pins s I⟩
theorem si_of {X : Cx} {tg iter : Expr} {wi : TI} {σ : L2.St} {H : Hp} {R : L2.It → Hp → Prop} (h : PI X tg iter wi) (q : wi σ H R) : SI X tg iter σ H R := fun pins s I => h.run pins s σ H R I q
/-- it yields what stands for ds, one behind another, while Hs stands -/
structure Wk (K : PySem.W.Frag) (J : L2.It) (ds : List D) (Hs : Hp) : Prop where
  go : ∀ i H, Same Hs H → i < ds.length → J.go i H
  yld : ∀ i H0 H x H' d, Same Hs H0 → Same H0 H → ds[i]? = some d → J.yld i H x H' → ∃ H0', Gr H0 H H0' H' ∧ Rp K H0' x d
  stop : ∀ i H, Same Hs H → ds.length ≤ i → J.stop i H
theorem wk_list {K : PySem.W.Frag} {Hs : Hp} {a : Addr} {xs : List V} {ds : List D} (h : Hs a = some (.lst xs)) (r : RpAll K Hs xs ds) : Wk K (Itl K a) ds Hs where
  go := fun i H s hi => by
    obtain ⟨d, hd⟩ : ∃ d, ds[i]? = some d := ⟨_, List.getElem?_eq_getElem hi⟩
    obtain ⟨v, hv, _⟩ := r.get hd
    exact ⟨xs, v, .of (s _ _ h), hv⟩
  yld := fun i H0 H x H' d s0 s hd y => by
    obtain ⟨e, y⟩ := y
    subst e
    obtain ⟨v, hv, rv⟩ := r.get hd
    have ex : v = x := Option.some.inj (hv.symm.trans (y xs (.of (s _ _ (s0 _ _ h)))))
    subst ex
    exact ⟨H0, Gr.refl s, rv.mono s0⟩
  stop := fun i H s hi => ⟨xs, .of (s _ _ h), by rw [r.length]; exact hi⟩
theorem wk_tup {K : PySem.W.Frag} {Hs : Hp} {a : Addr} {xs : List V} {ds : List D} (h : Hs a = some (.tup xs)) (r : RpAll K Hs xs ds) : Wk K (Itt K a) ds Hs where
  go := fun i H s hi => by
    obtain ⟨d, hd⟩ : ∃ d, ds[i]? = some d := ⟨_, List.getElem?_eq_getElem hi⟩
    obtain ⟨v, hv, _⟩ := r.get hd
    exact ⟨xs, v, .of (s _ _ h), hv⟩
  yld := fun i H0 H x H' d s0 s hd y => by
    obtain ⟨e, y⟩ := y
    subst e
    obtain ⟨v, hv, rv⟩ := r.get hd
    have ex : v = x := Option.some.inj (hv.symm.trans (y xs (.of (s _ _ (s0 _ _ h)))))
    subst ex
    exact ⟨H0, Gr.refl s, rv.mono s0⟩
  stop := fun i H s hi => ⟨xs, .of (s _ _ h), by rw [r.length]; exact hi⟩
theorem wk_rng {K : PySem.W.Frag} {Hs : Hp} {lo : Int} {n : Nat} {ds : List D} (e : ds = (List.range n).map fun (k : Nat) => PyData.int (lo + (k : Int))) : Wk K (Itr lo n) ds Hs := by
  subst e
  refine ⟨fun i H s hi => (show i < n by simpa using hi), fun i H0 H x H' d s0 s hd y => ?_, fun i H s hi => (show n ≤ i by simpa using hi)⟩
  obtain ⟨e1, e2⟩ := y
  subst e1 e2
  rw [List.getElem?_map] at hd
  simp only [Option.map_eq_some_iff] at hd
  obtain ⟨k, hk, rfl⟩ := hd
  have ek : k = i := by
    obtain ⟨h1, h2⟩ := List.getElem?_eq_some_iff.mp hk
    rw [List.getElem_range] at h2
    exact h2.symm
  subst ek
  exact ⟨H0, Gr.refl s, .int _⟩
theorem enumD_length : ∀ (ds : List D) (k : Nat), (enumD k ds).length = ds.length
  | [], _ => rfl
  | d :: ds, k => by
    simp only [enumD, List.length_cons]
    rw [enumD_length ds]
theorem enumD_get : ∀ (ds : List D) (k i : Nat), (enumD k ds)[i]? = (ds[i]?).map fun d => PyData.tuple [.int ((k + i : Nat) : Int), d]
  | [], _, _ => by simp [enumD]
  | d :: ds, k, 0 => by simp [enumD]
  | d :: ds, k, i + 1 => by
    simp only [enumD, List.getElem?_cons_succ]
    rw [enumD_get ds (k + 1) i]
    congr 1
    funext z
    rw [show k + 1 + i = k + (i + 1) by omega]
theorem wk_enum {K : PySem.W.Frag} {Hs : Hp} {a : Addr} {xs : List V} {ds : List D} (h : Hs a = some (.lst xs)) (r : RpAll K Hs xs ds) : Wk K (Ite K a) (enumD 0 ds) Hs where
  go := fun i H s hi => by
    rw [enumD_length] at hi
    obtain ⟨d, hd⟩ : ∃ d, ds[i]? = some d := ⟨_, List.getElem?_eq_getElem hi⟩
    obtain ⟨v, hv, _⟩ := r.get hd
    exact ⟨xs, v, .of (s _ _ h), hv⟩
  yld := fun i H0 H x H' d s0 s hd y => by
    obtain ⟨T, z, rfl, nT, rfl, hz⟩ := y
    rw [enumD_get] at hd
    simp only [Option.map_eq_some_iff] at hd
    obtain ⟨d', hd', rfl⟩ := hd
    obtain ⟨v, hv, rv⟩ := r.get hd'
    have ex : v = z := Option.some.inj (hv.symm.trans (hz xs (.of (s _ _ (s0 _ _ h)))))
    subst ex
    refine ⟨_, Gr.new s nT, .tup upd_same ?_⟩
    rw [Nat.zero_add]
    exact .cons (.int _) (.cons ((rv.mono s0).mono (same_new (s.free nT))) .nil)
  stop := fun i H s hi => ⟨xs, .of (s _ _ h), by rw [enumD_length] at hi; rw [r.length]; exact hi⟩
def ItOk (P : Prg) (it : It) : Prop := ∀ {X : Cx} {sc : Scope} {t x : Expr} {env : DEnv} {ds : List D} {σ : L2.St} {H0 H : Hp} {R : L2.It → Hp → Prop}, XOk P X sc → chkIt P it sc t x = true → itV P.c it env = some ds → Same H0 H → DRep X.K σ H0 env →
  (∀ J H0' H', Gr H0 H H0' H' → Wk X.K J ds H0' → R J H') → SI X t x σ H R
theorem free_of {X : Cx} {sc : Scope} {x : Str} (O : XOk P X sc) (h : P.free.contains x = true) : X.mg x = none := O.free x (by simpa using h)
theorem it_seq {e} (ih : VOk P e) : ItOk P (.seq e) := by
  intro X sc t x env ds σ H0 H R O hc he hs hr k
  have hc : chkE P e sc x = true := hc
  simp only [itV, Option.bind_eq_some_iff] at he
  obtain ⟨d, e1, e2⟩ := he
  split at e2
  · cases e2
    refine si_of (pi_list se_pe) (ih O hc e1 hs hr fun v H0' H' g r => ?_)
    obtain ⟨a, xs, rfl, ha, ra⟩ := r.list_inv
    exact ⟨a, rfl, ⟨xs, .of (g.c _ _ ha)⟩, k _ _ _ g (wk_list ha ra)⟩
  · cases e2
    refine si_of (pi_tup se_pe) (ih O hc e1 hs hr fun v H0' H' g r => ?_)
    obtain ⟨a, xs, rfl, ha, ra⟩ := r.tup_inv
    exact ⟨a, rfl, ⟨xs, .of (g.c _ _ ha)⟩, k _ _ _ g (wk_tup ha ra)⟩
  · cases e2
theorem rngD_inv {lo hi : Int} {ds : List D} (h : rngD lo hi = some ds) : (-(2 ^ 62) ≤ lo ∧ lo < 2 ^ 62 ∧ -(2 ^ 62) ≤ hi ∧ hi < 2 ^ 62) ∧ ds = (List.range (hi - lo).toNat).map fun (k : Nat) => PyData.int (lo + (k : Int)) := by
  unfold rngD at h
  split at h
  · rename_i hz
    exact ⟨hz, (Option.some.inj h).symm⟩
  · cases h
theorem it_rng1 {a} (ih : VOk P a) : ItOk P (.rng1 a) := by
  intro X sc t x env ds σ H0 H R O hc he hs hr k
  unfold chkIt at hc
  split at hc
  · simp only [Bool.and_eq_true] at hc
    obtain ⟨⟨⟨⟨h1, h2⟩, h3⟩, h4⟩, h5⟩ := hc
    have en := of_decide_eq_true h1
    subst en
    obtain ⟨g, gd⟩ := gl_of O.sc h2
    simp only [itV, Option.bind_eq_some_iff] at he
    obtain ⟨d, e1, e2⟩ := he
    split at e2
    · obtain ⟨hz, ed⟩ := rngD_inv e2
      refine si_of (pi_range1 g (free_of O h3) (pa_cons se_pe pa_nil (star_of h4 _ _)) (star_of h4 _ _)) (ih O h5 e1 hs hr fun v H0' H' g r => ?_)
      cases r
      refine ⟨_, rfl, hz.2.2.1, hz.2.2.2, k _ _ _ g (wk_rng ?_)⟩
      rw [ed, Int.sub_zero]
    · cases e2
  · cases hc
theorem it_rng2 {a b} (ia : VOk P a) (ib : VOk P b) : ItOk P (.rng2 a b) := by
  intro X sc t x env ds σ H0 H R O hc he hs hr k
  unfold chkIt at hc
  split at hc
  · simp only [Bool.and_eq_true] at hc
    obtain ⟨⟨⟨⟨⟨⟨h1, h2⟩, h3⟩, h4⟩, h5⟩, h6⟩, h7⟩ := hc
    have en := of_decide_eq_true h1
    subst en
    obtain ⟨g, gd⟩ := gl_of O.sc h2
    simp only [itV, Option.bind_eq_some_iff] at he
    obtain ⟨d, e1, d', e2, e3⟩ := he
    split at e3
    · obtain ⟨hz, ed⟩ := rngD_inv e3
      refine si_of (pi_range2 g (free_of O h3) (pa_cons se_pe (pa_cons se_pe pa_nil (star_of h5 _ _)) (star_of h4 _ _)) (by rw [star_of h4, star_of h5] <;> rfl) (star_of h5 _ _)) (ia O h6 e1 hs hr fun v H0' H' g r => ib O h7 e2 g.c (hr.mono g.b) fun w H0'' H'' g' r' => ?_)
      cases r
      cases r'
      exact ⟨_, _, rfl, ⟨hz.1, hz.2.1, hz.2.2.1, hz.2.2.2⟩, k _ _ _ (g.trans g') (wk_rng ed)⟩
    · cases e3
  · cases hc
theorem it_enm {e} (ih : VOk P e) : ItOk P (.enm e) := by
  intro X sc t x env ds σ H0 H R O hc he hs hr k
  unfold chkIt at hc
  split at hc
  · simp only [Bool.and_eq_true] at hc
    obtain ⟨⟨⟨⟨h1, h2⟩, h3⟩, h4⟩, h5⟩ := hc
    have en := of_decide_eq_true h1
    subst en
    obtain ⟨g, gd⟩ := gl_of O.sc h2
    simp only [itV, Option.bind_eq_some_iff] at he
    obtain ⟨d, e1, e2⟩ := he
    split at e2
    · cases e2
      refine si_of (pi_enum g (free_of O h3) (pa_cons se_pe pa_nil (star_of h4 _ _)) (star_of h4 _ _)) (ih O h5 e1 hs hr fun v H0' H' g r => ?_)
      obtain ⟨a, xs, rfl, ha, ra⟩ := r.list_inv
      exact ⟨a, xs, rfl, .of (g.c _ _ ha), k _ _ _ g (wk_enum ha ra)⟩
    · cases e2
  · cases hc
end Eng
set_option maxRecDepth 100000
set_option maxHeartbeats 4000000
/-! EngG: comprehensions, calls; the evaluator's soundness as a whole. -/
namespace Eng
open PySem PySem.Spec PyProof.Rows L2
variable {P : Prg}

/-! ### comprehensions -/
/-- in a block of a comprehension -/
abbrev blkX (X : Cx) (s : Shared) (H : Hp) (scope : Scope) (C : Addr) (cl : List (Str × Addr)) (fp : List Addr) : Cx := X.blk s H scope (compEnvC scope cl C X.env) fp
theorem xok_blk {X : Cx} {sc scope : Scope} (O : XOk P X sc) (s : Shared) (H : Hp) (C : Addr) (cl : List (Str × Addr)) (fp : List Addr) : XOk P (blkX X s H scope C cl fp) (relS scope sc) where
  hN := O.hN
  nd := O.nd
  sc := by
    rw [← O.sc]
    rfl
  calm := O.calm
  hu := O.hu
  free := O.free
  cons := O.cons
  call := fun f ds d h => ⟨(O.call f ds d h).ex⟩
  callk := fun f ks m ds d h => ⟨(O.callk f ks m ds d h).ex⟩
/-- what a comprehension's turns come to -/
theorem comp_run {K : PySem.W.Frag} {J : L2.It} {ds res : List D} {tg : Tg} {f : D → Option (Option D)} {σ : L2.St} {H0 H : Hp} {Q : VK} {tt : TT} {te : TE} (wk : Wk K J ds H0) (hs : Same H0 H) (hz : ds.length < big) (hc : compD f ds = some res) (k : Kd K H0 H (.list res) Q)
    (turn : ∀ d r (H0' H' : Hp) (v : V) (Q : Hp → Prop) (Qe : VK), d ∈ ds → Same H0 H0' → Same H0' H' → Rp K H0' v d → f d = some r → (∀ y H0'' H'' b, Gr H0' H' H0'' H'' → r = some b → Rp K H0'' y b → Qe y H'') → (∀ H0'' H'', Gr H0' H' H0'' H'' → r = none → Q H'') →
      gTg K tg v (wipe σ (tgIx tg)) H' fun σ2 H2 => wipe σ2 (tgIx tg) = wipe σ (tgIx tg) ∧ tt σ2 H2 fun b H3 => if b = true then te σ2 H3 Qe else Q H3) :
    ∀ Dl, H Dl = none → ∃ W : Nat → Nat → Hp → Prop, (∃ m, W 0 m (upd H Dl (.lst []))) ∧ ∀ i m H, W i m H →
      (J.stop i H ∧ Q (.ref Dl) H) ∨ (J.go i H ∧ ∃ Nx : Hp → Prop, (∀ H', Nx H' → ∃ m', m' < m ∧ W (i + 1) m' H') ∧ ∀ x H', J.yld i H x H' → gTg K tg x (wipe σ (tgIx tg)) H' fun σ2 H2 => wipe σ2 (tgIx tg) = wipe σ (tgIx tg) ∧ tt σ2 H2 fun b H3 =>
        if b = true then te σ2 H3 fun y H4 => ∃ acc, H4 Dl = some (.lst acc) ∧ acc.length < sizeLine ∧ Nx (upd H4 Dl (.lst (acc ++ [y]))) else Nx H3) := by
  intro Dl nD
  -- the state at a turn
  let S : Nat → Hp → Prop := fun i H2 => ∃ (Hf : Hp) (acc : List V) (da rest : List D), Same H H2 ∧ Same H0 Hf ∧ Same Hf H2 ∧ (∀ x, H0 x = none → H x ≠ none → Hf x = none) ∧ Hf Dl = none ∧ H2 Dl = some (.lst acc) ∧ RpAll K Hf acc da ∧ da.length ≤ i ∧ compD f (ds.drop i) = some rest ∧ da ++ rest = res
  refine ⟨fun i m H2 => m = ds.length - i ∧ i ≤ ds.length ∧ S i H2, ⟨ds.length, by simp, Nat.zero_le _, H0, [], [], res, same_new nD, .refl _, ?_, fun _ e _ => e, hs.free nD, upd_same, .nil, Nat.zero_le _, by simpa using hc, rfl⟩, ?_⟩
  · exact hs.trans (same_new nD)
  rintro i m H2 ⟨rfl, hi, Hf, acc, da, rest, a, b, c, n, fD, eD, ra, ln, ec, er⟩
  by_cases hlt : i < ds.length
  · right
    obtain ⟨d, hd⟩ : ∃ d, ds[i]? = some d := ⟨_, List.getElem?_eq_getElem hlt⟩
    have hdr : ds.drop i = d :: ds.drop (i + 1) := by
      rw [List.drop_eq_getElem_cons hlt]
      congr 1
      exact Option.some.inj ((List.getElem?_eq_getElem hlt).symm.trans hd)
    rw [hdr] at ec
    obtain ⟨r, er1⟩ : ∃ r, f d = some r := by
      simp only [compD] at ec
      split at ec
      · rename_i e _
        exact ⟨_, e⟩
      · rename_i e _
        exact ⟨_, e⟩
      · cases ec
    refine ⟨wk.go i H2 (b.trans c) hlt, S (i + 1), fun H' h => ⟨ds.length - (i + 1), by omega, rfl, hlt, h⟩, fun x H' y => ?_⟩
    obtain ⟨H0', g, rx⟩ := wk.yld i Hf H2 x H' d b c hd y
    refine turn d r H0' H' x _ _ (List.mem_of_getElem? hd) (b.trans g.b) g.c rx er1 (fun y H0'' H'' bb g2 eb ry => ?_) (fun H0'' H'' g2 eb => ?_)
    · have g3 := g.trans g2
      have fD2 : H0'' Dl = none := g3.n Dl fD (by rw [eD]; exact fun z => nomatch z)
      have eD2 : H'' Dl = some (.lst acc) := g3.a _ _ eD
      refine ⟨acc, eD2, ?_, H0'', acc ++ [y], da ++ [bb], ?_⟩
      · have := ra.length
        have hz' : ds.length < sizeLine := hz
        omega
      subst eb
      obtain ⟨rest', e1, e2⟩ : ∃ rest', compD f (ds.drop (i + 1)) = some rest' ∧ rest = bb :: rest' := by
        simp only [compD] at ec
        rw [er1] at ec
        split at ec
        · rename_i e1 e2
          cases e1
          exact ⟨_, e2, (Option.some.inj ec).symm⟩
        · rename_i e1 e2
          cases e1
        · cases ec
      refine ⟨rest', ?_, b.trans g3.b, ?_, fun x e1 e2 => g3.n x (n x e1 e2) ?_, fD2, upd_same, (ra.mono g3.b).snoc ry, ?_, e1, ?_⟩
      · exact fun z o e => by
          rw [upd_ne (ne_of_none e nD)]
          exact g3.a _ _ (a z o e)
      · exact fun z o e => by
          rw [upd_ne (ne_of_none e fD2)]
          exact g3.c z o e
      · intro z
        cases hx : H x with
        | none => exact e2 hx
        | some o => rw [a x o hx] at z; cases z
      · rw [List.length_append]
        show da.length + 1 ≤ i + 1
        omega
      · rw [List.append_assoc]
        show da ++ (bb :: rest') = res
        rw [← e2]
        exact er
    · have g3 := g.trans g2
      have fD2 : H0'' Dl = none := g3.n Dl fD (by rw [eD]; exact fun z => nomatch z)
      subst eb
      obtain ⟨rest', e1, e2⟩ : ∃ rest', compD f (ds.drop (i + 1)) = some rest' ∧ rest = rest' := by
        simp only [compD] at ec
        rw [er1] at ec
        split at ec
        · rename_i e1 e2
          cases e1
        · rename_i e1 e2
          exact ⟨_, e2, (Option.some.inj ec).symm⟩
        · cases ec
      refine ⟨H0'', acc, da, rest', a.trans g3.a, b.trans g3.b, g3.c, fun x e1 e2 => g3.n x (n x e1 e2) ?_, fD2, g3.a _ _ eD, ra.mono g3.b, by omega, e1, by rw [← e2]; exact er⟩
      intro z
      cases hx : H x with
      | none => exact e2 hx
      | some o => rw [a x o hx] at z; cases z
  · left
    have e : i = ds.length := by omega
    subst e
    rw [List.drop_length] at ec
    cases ec
    rw [List.append_nil] at er
    subst er
    refine ⟨wk.stop _ H2 (b.trans c) (Nat.le_refl _), k _ (upd Hf Dl (.lst acc)) H2 ⟨a, ?_, ?_, ?_⟩ (.lst upd_same (ra.mono (same_new fD)))⟩
    · exact b.trans (same_new fD)
    · exact fun z o e => by
        by_cases q : z = Dl
        · subst q
          rw [upd_same] at e
          rw [eD]
          exact e
        · rw [upd_ne q] at e
          exact c z o e
    · exact fun x e1 e2 => by
        rw [upd_ne (fun q => e2 (by rw [q]; exact nD))]
        exact n x e1 e2
theorem fold_of {i : Expr} (h : noSetB i = true) (env : Env) (x : Value) : foldedSetIterable i env x = pure x := by
  cases i <;> first | rfl | cases h
theorem ixOwn (N : List Str) (tg : Tg) : (ownOf N tg).map (·.2) = tgIx tg := by
  unfold ownOf
  rw [List.map_map]
  exact List.map_id _
theorem hfn_blk {X : Cx} {s : Shared} {H : Hp} {scope : Scope} {C : Addr} {cl : List (Str × Addr)} {fp : List Addr} (y : Str) (h : scope.names.lookup y = some .cell) : (blkX X s H scope C cl fp).fn y = true := by
  show (scope.names.lookup y == some .cell) = true
  rw [h]
  rfl
/-- a written comprehension with all that its rule wants -/
def LcC (X : Cx) (x : Expr) (σ : L2.St) (H : Hp) (Q : VK) : Prop :=
  ∃ (elt tg iter : Expr) (ifs : List Expr) (scope : Scope) (own : List (Str × Nat)) (pos : Pos) (wi : TI) (g : TG) (tt : TT) (te : TE), x = .ListComp elt [⟨tg, iter, ifs, 0⟩] scope pos ∧ X.calm = true ∧ X.N.Nodup ∧ PI X tg iter wi ∧ BlkOk X.N X.env.scope scope own ∧
    (∀ (s : Shared) (H : Hp) (C : Addr) (cl : List (Str × Addr)) (fp : List Addr), PG (X.blk s H scope (compEnvC scope cl C X.env) fp) tg g) ∧ (∀ (s : Shared) (H : Hp) (C : Addr) (cl : List (Str × Addr)) (fp : List Addr), PTs (X.blk s H scope (compEnvC scope cl C X.env) fp) ifs tt) ∧
    (∀ (s : Shared) (H : Hp) (C : Addr) (cl : List (Str × Addr)) (fp : List Addr), PE (X.blk s H scope (compEnvC scope cl C X.env) fp) elt te) ∧ (∀ x, foldedSetIterable iter X.env x = pure x) ∧ tLc wi g tt te (own.map (·.2)) σ H Q
theorem LcC.se {X : Cx} {x : Expr} {σ : L2.St} {H : Hp} {Q : VK} (h : LcC X x σ H Q) : SE X x σ H Q := by
  obtain ⟨elt, tg, iter, ifs, scope, own, pos, wi, g, tt, te, rfl, a1, a2, a3, a4, a5, a6, a7, a8, q⟩ := h
  exact se_of (pe_lc a1 a2 a3 a4 a5 a6 a7 a8) q
def COk (P : Prg) (e : E) : Prop := ∀ {X : Cx} {sc : Scope} {x : Expr} {env : DEnv} {d : D} {σ : L2.St} {H0 H : Hp} {Q : VK}, XOk P X sc → chkE P e sc x = true → evV P.c e env = some d → Same H0 H → DRep X.K σ H0 env → Kd X.K H0 H d Q → LcC X x σ H Q
theorem COk.v {e : E} (h : COk P e) : VOk P e := fun O hc he hs hr k => (h O hc he hs hr k).se
theorem c_lc {elt tg it} (ii : ItOk P it) (ie : VOk P elt) : COk P (.lc elt tg it) := by
  intro X sc x env d σ H0 H Q O hc he hs hr k
  unfold chkE at hc
  split at hc
  · rename_i e t i sc' pos
    simp only [Bool.and_eq_true] at hc
    obtain ⟨⟨⟨⟨c1, c2⟩, c3⟩, c4⟩, c5⟩ := hc
    simp only [evV, Option.bind_eq_some_iff] at he
    obtain ⟨ds, e1, e2⟩ := he
    split at e2
    · rename_i hz
      simp only [Option.map_eq_some_iff] at e2
      obtain ⟨res, e3, rfl⟩ := e2
      refine ⟨e, t, i, [], sc', ownOf P.N tg, pos, _, gTg X.K tg, tYes, fun σ H Q => ∀ s H_ C cl fp, SE (blkX X s H_ sc' C cl fp) e σ H Q, rfl, O.calm, by rw [O.hN]; exact O.nd, si_pi (tg := t), by rw [O.hN, O.sc]; exact blkOk_by c2,
        (fun s H_ C cl fp => pg_tg (P := P) (X := blkX X s H_ sc' C cl fp) (sc := relS sc' sc) (own := sc') (by show X.N.Nodup; rw [O.hN]; exact O.nd) O.calm O.hN (xok_blk O s H_ C cl fp).sc (fun y h => hfn_blk y h) c3),
        (fun s H_ C cl fp => pts_nil), (fun s H_ C cl fp => ⟨fun pins s1 σ1 H1 Q1 I h => h s H_ C cl fp pins s1 I⟩), (fun x => fold_of c1 _ x), ?_⟩
      rw [ixOwn]
      refine ii O c4 e1 hs hr fun J H0' H' g wk => ?_
      refine comp_run (tg := tg) (σ := σ) (tt := tYes) (te := fun σ H Q => ∀ s H_ C cl fp, SE (blkX X s H_ sc' C cl fp) e σ H Q) (f := fun d => (bindD tg d env).bind fun env' => (evV P.c elt env').map some) wk g.c hz e3 (kd_of g k) fun d r H1 H2 v Qn Qe hd s0 s1 rv ef qe qn => ?_
      rw [bindD_eq] at ef
      simp only [Option.bind_eq_some_iff, Option.map_eq_some_iff] at ef
      obtain ⟨env', ⟨vals, ev, ee⟩, y, ey, er⟩ := ef
      refine gTg_ok s1 rv ev fun vs rvs lv => ⟨wipe_setAll σ _ vs, ?_⟩
      unfold tYes
      refine iteT ?_
      intro s H_ C cl fp
      rw [setAll_wipe _ _ _ lv]
      refine ie (xok_blk O s H_ C cl fp) c5 ey s1 ?_ fun z H3 H4 g2 rz => qe z H3 H4 y g2 er.symm rz
      rw [← ee]
      exact drep_all ((hr.mono g.b).mono s0) rvs
    · cases e2
  · cases hc
theorem c_lcc {elt tg it cnd} (ii : ItOk P it) (ie : VOk P elt) (ic : TOk P cnd) : COk P (.lcc elt tg it cnd) := by
  intro X sc x env d σ H0 H Q O hc he hs hr k
  unfold chkE at hc
  split at hc
  · rename_i e t i q sc' pos
    simp only [Bool.and_eq_true] at hc
    obtain ⟨⟨⟨⟨⟨⟨c1, c2⟩, c3⟩, c4⟩, c6⟩, c7⟩, c5⟩ := hc
    simp only [evV, Option.bind_eq_some_iff] at he
    obtain ⟨ds, e1, e2⟩ := he
    split at e2
    · rename_i hz
      simp only [Option.map_eq_some_iff] at e2
      obtain ⟨res, e3, rfl⟩ := e2
      refine ⟨e, t, i, [q], sc', ownOf P.N tg, pos, _, gTg X.K tg, fun σ H Q => ∀ s H_ C cl fp, ST (blkX X s H_ sc' C cl fp) q σ H Q, fun σ H Q => ∀ s H_ C cl fp, SE (blkX X s H_ sc' C cl fp) e σ H Q, rfl, O.calm, by rw [O.hN]; exact O.nd, si_pi (tg := t), by rw [O.hN, O.sc]; exact blkOk_by c2,
        (fun s H_ C cl fp => pg_tg (P := P) (X := blkX X s H_ sc' C cl fp) (sc := relS sc' sc) (own := sc') (by show X.N.Nodup; rw [O.hN]; exact O.nd) O.calm O.hN (xok_blk O s H_ C cl fp).sc (fun y h => hfn_blk y h) c3),
        (fun s H_ C cl fp => pts_one ⟨fun pins s1 σ1 H1 Q1 I h => h s H_ C cl fp pins s1 I⟩), (fun s H_ C cl fp => ⟨fun pins s1 σ1 H1 Q1 I h => h s H_ C cl fp pins s1 I⟩), (fun x => fold_of c1 _ x), ?_⟩
      rw [ixOwn]
      refine ii O c4 e1 hs hr fun J H0' H' g wk => ?_
      refine comp_run (tg := tg) (σ := σ) (tt := fun σ H Q => ∀ s H_ C cl fp, ST (blkX X s H_ sc' C cl fp) q σ H Q) (te := fun σ H Q => ∀ s H_ C cl fp, SE (blkX X s H_ sc' C cl fp) e σ H Q) (f := fun d => (bindD tg d env).bind fun env' => ((evV P.c cnd env').bind truth).bind fun k => if k then (evV P.c elt env').map some else some none) wk g.c hz e3 (kd_of g k) fun d r H1 H2 v Qn Qe hd s0 s1 rv ef qe qn => ?_
      rw [bindD_eq] at ef
      simp only [Option.bind_eq_some_iff, Option.map_eq_some_iff] at ef
      obtain ⟨env', ⟨vals, ev, ee⟩, kk, ⟨dc, ec, et⟩, er⟩ := ef
      refine gTg_ok s1 rv ev fun vs rvs lv => ⟨wipe_setAll σ _ vs, ?_⟩
      rw [setAll_wipe _ _ _ lv]
      have dr : DRep X.K (setAll σ (tgIx tg) vs) H1 env' := by
        rw [← ee]
        exact drep_all ((hr.mono g.b).mono s0) rvs
      intro s H_ C cl fp
      refine ic (xok_blk O s H_ C cl fp) c7 c6 ec et s1 dr fun H3 H4 g2 => ?_
      cases kk with
      | true =>
        rw [if_pos rfl] at er ⊢
        simp only [Option.map_eq_some_iff] at er
        obtain ⟨y, ey, er⟩ := er
        intro s H_ C cl fp
        exact ie (xok_blk O s H_ C cl fp) c5 ey g2.c (dr.mono g2.b) fun z H5 H6 g3 rz => qe z H5 H6 y (g2.trans g3) er.symm rz
      | false =>
        rw [if_neg (by decide)] at er ⊢
        exact qn H3 H4 g2 (Option.some.inj er).symm
    · cases e2
  · cases hc
theorem ok_lc {elt tg it} (ii : ItOk P it) (ie : VOk P elt) : VOk P (.lc elt tg it) := COk.v (c_lc ii ie)
theorem ok_lcc {elt tg it cnd} (ii : ItOk P it) (ie : VOk P elt) (ic : TOk P cnd) : VOk P (.lcc elt tg it cnd) := COk.v (c_lcc ii ie ic)
end Eng
set_option maxRecDepth 100000
set_option maxHeartbeats 4000000
/-! EngH: calls; the evaluator's soundness as a whole. -/
namespace Eng
open PySem PySem.Spec PyProof.Rows L2
variable {P : Prg}

/-! ### calls -/
theorem any_of {P : Prg} {sc : Scope} : ∀ {es : Es} {xs : List Expr}, chkEs P es sc xs = true → ∀ (pos : Pos) (env : Env), (backTo pos (starEach xs env)).any (·.1) = false
  | .nil, [], _, _, _ => rfl
  | .nil, _ :: _, h, _, _ => nomatch h
  | .cons _ _, [], h, _, _ => nomatch h
  | .cons e es, x :: xs, h, pos, env => by
    obtain ⟨h1, h2, h3⟩ := and3 (show (plainB x && chkE P e sc x && chkEs P es sc xs) = true from h)
    have ih := any_of h3 pos env
    rw [star_of h1]
    show (false || (backTo pos (starEach xs env)).any (·.1)) = false
    rw [ih]
    rfl
theorem sa_pa1 {X : Cx} {e : Expr} {es : List Expr} : PA X (e :: es) (fun σ H Q => SA X (e :: es) σ H Q) := sa_pa
theorem ok_call {f es} (ih : EsOk P es) : VOk P (.call f es) := by
  intro X sc x env d σ H0 H Q O hc he hs hr k
  unfold chkE at hc
  split at hc
  · rename_i n p as pos
    obtain ⟨h1, h2, h3⟩ := and3 hc
    have en := of_decide_eq_true h1
    subst en
    obtain ⟨g, gd⟩ := gl_of O.sc h2
    simp only [evV, Option.bind_eq_some_iff] at he
    obtain ⟨ds, e1, e2⟩ := he
    obtain ⟨fa, fd, ps, sp, kk, m, kp, hb, F, hr', _, _, hq⟩ := (O.call _ _ _ e2).ex
    cases as with
    | nil =>
      cases es with
      | nil =>
        cases e1
        exact se_of (pe_call0 F hr' g m kp hb .nil pass0 gd) (hq [] H0 H Q hs .nil k)
      | cons _ _ => cases h3
    | cons a as =>
      have h3' := h3
      cases es with
      | nil => cases h3
      | cons e es =>
        obtain ⟨q1, q2, q3⟩ := and3 (show (plainB a && chkE P e sc a && chkEs P es sc as) = true from h3)
        refine se_of (pe_call F hr' g m kp hb .nil pass0 sa_pa1 gd (star_of q1 _ _) (any_of q3 _ _)) (ih O h3' e1 hs hr fun vs H0' H' gr r => ?_)
        rw [List.append_nil]
        exact hq vs H0' H' Q gr.c r (kd_of gr k)
  · cases hc
theorem ok_blt {b es} (ih : EsOk P es) : VOk P (.blt b es) := by
  intro X sc x env d σ H0 H Q O hc he hs hr k
  unfold chkE at hc
  split at hc
  · rename_i n p as pos
    simp only [Bool.and_eq_true] at hc
    obtain ⟨⟨⟨⟨h1, h2⟩, h3⟩, h4⟩, h5⟩ := hc
    have en := of_decide_eq_true h1
    subst en
    obtain ⟨g, gd⟩ := gl_of O.sc h2
    have m := free_of O h3
    simp only [evV, Option.bind_eq_some_iff] at he
    obtain ⟨ds, e1, e2⟩ := he
    cases as with
    | nil => cases h4
    | cons a as =>
      have h5' := h5
      cases es with
      | nil => cases h5
      | cons e es =>
        obtain ⟨q1, q2, q3⟩ := and3 (show (plainB a && chkE P e sc a && chkEs P es sc as) = true from h5)
        have fin : ∀ {t : TE}, PE X (.Call (.Name b.str p) (a :: as) [] pos) t → (∀ vs H0' H', Gr H0 H H0' H' → RpAll X.K H0' vs ds → rBltD X.K b vs H' Q) → t = tCB (rBltD X.K b) (fun σ H Q => SA X (a :: as) σ H Q) → SE X (.Call (.Name b.str p) (a :: as) [] pos) σ H Q := fun hp hq et => by
          subst et
          exact se_of hp (ih O h5' e1 hs hr fun vs H0' H' gr r => hq vs H0' H' gr r)
        have hq : ∀ vs H0' H', Gr H0 H H0' H' → RpAll X.K H0' vs ds → rBltD X.K b vs H' Q := fun vs H0' H' gr r => ⟨H0', ds, d, gr.c, r, e2, kd_of gr k⟩
        cases b with
        | len => exact fin (pe_callB cr_lenD g m boot_len sa_pa1 (by decide) gd (star_of q1 _ _) (any_of q3 _ _)) hq rfl
        | abs => exact fin (pe_callB cr_absD g m boot_abs sa_pa1 (by decide) gd (star_of q1 _ _) (any_of q3 _ _)) hq rfl
        | int => exact fin (pe_callTy cr_intD g m boot_int sa_pa1 (by decide) gd (star_of q1 _ _) (any_of q3 _ _)) hq rfl
        | max => exact fin (pe_callB (cr_maxD O.calm) g m (by decide +kernel) sa_pa1 (by decide) gd (star_of q1 _ _) (any_of q3 _ _)) hq rfl
        | min => exact fin (pe_callB (cr_minD O.calm) g m (by decide +kernel) sa_pa1 (by decide) gd (star_of q1 _ _) (any_of q3 _ _)) hq rfl
        | sum => exact fin (pe_callB (cr_sumD O.calm) g m (by decide +kernel) sa_pa1 (by decide) gd (star_of q1 _ _) (any_of q3 _ _)) hq rfl
        | all => exact fin (pe_callB (cr_allD O.calm) g m (by decide +kernel) sa_pa1 (by decide) gd (star_of q1 _ _) (any_of q3 _ _)) hq rfl
        | any => exact fin (pe_callB (cr_anyD O.calm) g m (by decide +kernel) sa_pa1 (by decide) gd (star_of q1 _ _) (any_of q3 _ _)) hq rfl
        | list => exact fin (pe_callTy cr_listD g m boot_list sa_pa1 (by decide) gd (star_of q1 _ _) (any_of q3 _ _)) hq rfl
        | tuple => exact fin (pe_callTy cr_tupleD g m boot_tuple sa_pa1 (by decide) gd (star_of q1 _ _) (any_of q3 _ _)) hq rfl
  · cases hc
/-! keywords -/
theorem kw_plain : ∀ {kws : List Keyword} {ks : List Str} (pos : Pos) (env : Env), kwB kws ks = true → (backToKw pos (keywordEach kws env)).all (·.1.isSome) = true ∧ (backToKw pos (keywordEach kws env)).filterMap (·.1) = ks ∧ (backToKw pos (keywordEach kws env)).any (·.1.isNone) = false
  | [], [], _, _, _ => ⟨rfl, rfl, rfl⟩
  | [], _ :: _, _, _, h => nomatch h
  | ⟨none, _, _⟩ :: _, _, _, _, h => by simp [kwB] at h
  | ⟨some n, e, p⟩ :: r, [], _, _, h => by simp [kwB] at h
  | ⟨some n, e, p⟩ :: r, k :: ks, pos, env, h => by
    simp only [kwB, Bool.and_eq_true] at h
    obtain ⟨a, b, c⟩ := kw_plain pos env h.2
    have en := of_decide_eq_true h.1
    subst en
    refine ⟨?_, ?_, ?_⟩
    · show (true && (backToKw pos (keywordEach r env)).all (·.1.isSome)) = true
      rw [a]
      rfl
    · show n :: (backToKw pos (keywordEach r env)).filterMap (·.1) = n :: ks
      rw [b]
    · show (false || (backToKw pos (keywordEach r env)).any (·.1.isNone)) = false
      rw [c]
      rfl
def SK (X : Cx) (kws : List Keyword) (σ : L2.St) (H : Hp) (Q : List V → Hp → Prop) : Prop := ∃ t, PK X kws t ∧ t σ H Q
theorem sk_pk {X : Cx} {kws : List Keyword} : PK X kws (fun σ H Q => SK X kws σ H Q) := ⟨fun pos pins s σ H Q I ⟨t, h, q⟩ => h.run pos pins s σ H Q I q⟩
/-- the keywords' values: from the list of all arguments behind the positional ones -/
def splitEs : Nat → Es → Es × Es
  | 0, es => (.nil, es)
  | n + 1, .nil => (.nil, .nil)
  | n + 1, .cons e es => ((.cons e (splitEs n es).1), (splitEs n es).2)
def EsAll (P : Prg) : Es → Prop
  | .nil => True
  | .cons e es => VOk P e ∧ EsAll P es
theorem esOk_of {P : Prg} : ∀ {es : Es}, EsAll P es → EsOk P es
  | .nil, _ => ok_nil
  | .cons _ _, ⟨h, r⟩ => ok_cons h (esOk_of r)
theorem sk_of {P : Prg} : ∀ {es : Es}, EsAll P es → ∀ {X : Cx} {sc : Scope} {kws : List Keyword} {ks : List Str} {env : DEnv} {ds : List D} {σ : L2.St} {H0 H : Hp} {Q : List V → Hp → Prop}, XOk P X sc → kwB kws ks = true → chkEs P es sc (kwE kws) = true → evVs P.c es env = some ds → Same H0 H → DRep X.K σ H0 env →
    KdA X.K H0 H ds Q → SK X kws σ H Q
  | .nil, _, X, sc, [], ks, env, ds, σ, H0, H, Q, O, hk, hc, he, hs, hr, k => by
    cases he
    exact ⟨_, pk_nil, k [] H0 H (Gr.refl hs) .nil⟩
  | .nil, _, X, sc, ⟨_, _, _⟩ :: _, ks, env, ds, σ, H0, H, Q, O, hk, hc, he, hs, hr, k => nomatch hc
  | .cons _ _, _, X, sc, [], ks, env, ds, σ, H0, H, Q, O, hk, hc, he, hs, hr, k => nomatch hc
  | .cons e es, ⟨ie, ih⟩, X, sc, ⟨none, _, _⟩ :: _, ks, env, ds, σ, H0, H, Q, O, hk, hc, he, hs, hr, k => by simp [kwB] at hk
  | .cons e es, ⟨ie, ih⟩, X, sc, ⟨some n, y, p⟩ :: r, [], env, ds, σ, H0, H, Q, O, hk, hc, he, hs, hr, k => by simp [kwB] at hk
  | .cons e es, ⟨ie, ih⟩, X, sc, ⟨some n, y, p⟩ :: r, kn :: ks, env, ds, σ, H0, H, Q, O, hk, hc, he, hs, hr, k => by
    obtain ⟨h1, h2, h3⟩ := and3 (show (plainB y && chkE P e sc y && chkEs P es sc (kwE r)) = true from hc)
    simp only [kwB, Bool.and_eq_true] at hk
    simp only [evVs, Option.bind_eq_some_iff] at he
    obtain ⟨d, e1, ds', e2, e3⟩ := he
    cases e3
    refine ⟨_, pk_cons se_pe sk_pk, ie O h2 e1 hs hr fun v H0' H' g rv => sk_of ih O hk.2 h3 e2 g.c (hr.mono g.b) fun vs H0'' H'' g' r' => k _ _ _ (g.trans g') (.cons (rv.mono g'.b) r')⟩
theorem chk_split {P : Prg} {sc : Scope} : ∀ {as : List Expr} {bs : List Expr} {es : Es}, chkEs P es sc (as ++ bs) = true → chkEs P (splitEs as.length es).1 sc as = true ∧ chkEs P (splitEs as.length es).2 sc bs = true
  | [], bs, es, h => ⟨rfl, h⟩
  | a :: as, bs, .nil, h => nomatch h
  | a :: as, bs, .cons e es, h => by
    obtain ⟨h1, h2, h3⟩ := and3 (show (plainB a && chkE P e sc a && chkEs P es sc (as ++ bs)) = true from h)
    obtain ⟨q1, q2⟩ := chk_split h3
    refine ⟨?_, q2⟩
    show (plainB a && chkE P e sc a && chkEs P (splitEs as.length es).1 sc as) = true
    rw [h1, h2, q1]
    rfl
theorem ev_split {c : CallD} {env : DEnv} : ∀ (n : Nat) {es : Es} {ds : List D}, evVs c es env = some ds → ∃ d1 d2, evVs c (splitEs n es).1 env = some d1 ∧ evVs c (splitEs n es).2 env = some d2 ∧ ds = d1 ++ d2
  | 0, es, ds, h => ⟨[], ds, rfl, h, rfl⟩
  | n + 1, .nil, ds, h => by
    cases h
    exact ⟨[], [], rfl, rfl, rfl⟩
  | n + 1, .cons e es, ds, h => by
    simp only [evVs, Option.bind_eq_some_iff] at h
    obtain ⟨d, e1, ds', e2, e3⟩ := h
    cases e3
    obtain ⟨d1, d2, q1, q2, rfl⟩ := ev_split n e2
    refine ⟨d :: d1, d2, ?_, q2, rfl⟩
    simp only [splitEs, evVs, e1, q1]
    rfl
theorem all_split {P : Prg} : ∀ (n : Nat) {es : Es}, EsAll P es → EsAll P (splitEs n es).1 ∧ EsAll P (splitEs n es).2
  | 0, es, h => ⟨trivial, h⟩
  | n + 1, .nil, h => ⟨trivial, trivial⟩
  | n + 1, .cons e es, ⟨h, r⟩ => ⟨⟨h, (all_split n r).1⟩, (all_split n r).2⟩
theorem RpAll.perm {K : PySem.W.Frag} {H : Hp} {vs : List V} {ds : List D} (r : RpAll K H vs ds) : ∀ (pm : List Nat), RpAll K H (permL pm vs) (permL pm ds)
  | [] => .nil
  | i :: pm => by
    have ih := r.perm pm
    unfold permL at ih ⊢
    rw [List.filterMap_cons, List.filterMap_cons]
    cases q : ds[i]? with
    | none =>
      have : vs[i]? = none := by
        rw [List.getElem?_eq_none_iff] at q ⊢
        rw [r.length]
        exact q
      rw [this]
      exact ih
    | some d =>
      obtain ⟨v, hv, rv⟩ := r.get q
      rw [hv]
      exact .cons rv ih
/-- f(k = v, ..), nothing by position -/
theorem pe_callK0 {X : Cx} {k : Nat} {f : Addr} {fd : FuncData} {ps ks : List Str} {sp : Sp} {g : List Value → List Value → List Value} {gV : List V → List V → List V} {CX : CXT} {E : XK} {x : Str} {p pos : Pos} {kws : List Keyword} {tk : TA}
    (F : FnOk X.prog X.w X.K X.mg X.base CX k f fd ps sp) (hr : Room k X.A) (hg : Gl X x) (hm : X.mg x = some (.ref f)) (hk : PySem.W.keepIn X.K (.ref f) = true) (hb : KBinds X.K fd ps ks g gV) (hx : Passes CX X E)
    (hkw : PK X kws tk) (hall : (backToKw pos (keywordEach kws X.env)).all (·.1.isSome) = true) (hks : (backToKw pos (keywordEach kws X.env)).filterMap (·.1) = ks) (hdb : (x == ("__debug__" : Str)) = false)
    (hpl : ((backTo pos (starEach [] X.env)).any (·.1) || (backToKw pos (keywordEach kws X.env)).any (·.1.isNone)) = false) :
    PE X (.Call (.Name x p) [] kws pos) (fun σ H Q => tk σ H fun zs H1 => sp (gV [] zs) H1 Q E) := by
  refine ⟨fun pins s σ H Q I h => ?_⟩
  refine wpAny_Call_Name_kw (ld_glob I hg hm ?_ hdb)
  refine PySem.W.callWith_KW0 (h₀ := X.base) I.ok.mod.kin hk hall (thn (hkw.run pos pins s σ H _ I h) fun ws s2 ⟨zs, H2, I2, rz, q2⟩ => ⟨I2.kIn, ?_⟩) hpl
  rw [hks]
  exact run_fnk (us := []) (vs := []) F hr hb hx I2 .nil rz q2
theorem ok_callk {f es ks pm} (ih : EsAll P es) : VOk P (.callk f es ks pm) := by
  intro X sc x env d σ H0 H Q O hc he hs hr k
  unfold chkE at hc
  split at hc
  · rename_i n p kws pos
    simp only [Bool.and_eq_true] at hc
    obtain ⟨⟨⟨⟨h1, h2⟩, h3⟩, h4⟩, h6⟩ := hc
    have en := of_decide_eq_true h1
    subst en
    obtain ⟨g, gd⟩ := gl_of O.sc h2
    simp only [evV, Option.bind_eq_some_iff] at he
    obtain ⟨ds, e1, e2⟩ := he
    split at e2
    · rename_i hlen
      obtain ⟨fa, fd, ps, sp, kk, m, kp, hb, F, hr', _, hkb, hq⟩ := (O.callk n (ks, pm) (by simpa using h3) _ _ e2).ex
      obtain ⟨w1, w2, w3⟩ := kw_plain pos X.env h4
      refine se_of (pe_callK0 F hr' g m kp (hkb (ks, pm) rfl) pass0 sk_pk w1 w2 gd (by rw [w3]; rfl)) ?_
      refine sk_of ih O h4 h6 e1 hs hr fun zs H0' H' gr r => ?_
      have hz : zs.length = ks.length := by rw [r.length, hlen]
      show sp (if zs.length = ks.length then permL pm zs else []) H' Q E0
      rw [if_pos hz]
      exact hq (permL pm zs) H0' H' Q gr.c (r.perm pm) (kd_of gr k)
    · cases e2
  · cases hc

/-! ### isinstance -/
theorem kit_D {d : D} {t : Ty} (h : known d = true) : kitB (tyName d) t.nm = some (isTy d t) := by
  cases d <;> first
    | (exact absurd h (by decide))
    | (cases t <;> (simp only [tyName, Ty.nm, isTy]; decide +kernel))
theorem tyx_of {K : PySem.W.Frag} {H0 H : Hp} {x : V} {d : D} (hs : Same H0 H) (r : Rp K H0 x d) (h : known d = true) : TyX K H x (.type (tyName d)) := by
  cases r with
  | non => exact .base .non
  | bl b => exact .base (.bl b)
  | int i => exact .base (.int i)
  | str i => exact .base (.str i)
  | lst ha _ => exact .base (.lst (hs _ _ ha))
  | tup ha _ => exact .base (.tup (hs _ _ ha))
  | frn _ _ => cases h
theorem kitAny_D {K : PySem.W.Frag} {d : D} (h : known d = true) : ∀ ts : List Ty, PySem.W.kitAny K (.type (tyName d)) (ts.map fun t => Value.type t.nm) = some (ts.any (isTy d))
  | [] => rfl
  | t :: ts => by
    refine kitAny_cons (kit_ty (kit_D h)) (fun e => ?_) (fun e => ?_)
    · rw [kitAny_D h ts, List.any_cons, e]
      rfl
    · rw [List.any_cons, e]
      rfl
theorem boot_ty (t : Ty) : bootBuiltins (Str.ofString t.nm) = some (.type t.nm) := by
  cases t
  · exact boot_int
  · exact boot_bool
  · exact boot_str
  · exact boot_list
  · exact boot_tuple
theorem ty_pe {X : Cx} {sc : Scope} {t : Ty} {x : Expr} (O : XOk P X sc) (h : tyB sc P.free t x = true) : PE X x (tC (.ty t.nm)) ∧ plainB x = true := by
  unfold tyB at h
  split at h
  · obtain ⟨h1, h2, h3⟩ := and3 h
    have en := of_decide_eq_true h1
    subst en
    obtain ⟨g, gd⟩ := gl_of O.sc h2
    refine ⟨pe_bltn g (free_of O h3) (boot_ty t) rfl ?_ gd, rfl⟩
    cases t <;> decide
  · cases h
theorem tys_pa {X : Cx} {sc : Scope} (O : XOk P X sc) : ∀ {ts : List Ty} {xs : List Expr}, tysB sc P.free ts xs = true → ∃ t, PA X xs t ∧ ∀ σ H Q, Q (ts.map fun t => V.ty t.nm) H → t σ H Q
  | [], [], _ => ⟨_, pa_nil, fun _ _ _ q => q⟩
  | [], _ :: _, h => nomatch h
  | _ :: _, [], h => nomatch h
  | t :: ts, x :: xs, h => by
    obtain ⟨h1, h2⟩ := Bool.and_eq_true_iff.mp (show (tyB sc P.free t x && tysB sc P.free ts xs) = true from h)
    obtain ⟨p, pl⟩ := ty_pe O h1
    obtain ⟨tt, r, q⟩ := tys_pa O h2
    exact ⟨_, pa_cons p r (star_of pl _ _), fun σ H Q k => q σ H _ k⟩
theorem paired_tys : ∀ ts : List Ty, Paired ClsV (ts.map fun t => V.ty t.nm) (ts.map fun t => Value.type t.nm)
  | [] => .nil
  | t :: ts => .cons (.ty t.nm) (paired_tys ts)
theorem ok_isi {a ts} (ih : VOk P a) : VOk P (.isi a ts) := by
  intro X sc x env d σ H0 H Q O hc he hs hr k
  have hc0 := hc
  unfold chkE at hc
  simp only [evV, Option.bind_eq_some_iff, Option.map_eq_some_iff] at he
  obtain ⟨dx, e1, b, e2, rfl⟩ := he
  unfold isTys at e2
  split at e2
  · rename_i hkn
    cases e2
    split at hc
    · rename_i n p1 v y p2 pos
      simp only [Bool.and_eq_true] at hc
      obtain ⟨⟨⟨⟨⟨h1, h2⟩, h3⟩, h4⟩, h5⟩, h6⟩ := hc
      have en := of_decide_eq_true h1
      subst en
      obtain ⟨g, gd⟩ := gl_of O.sc h2
      match ts, h6 with
      | [t], h6 =>
        obtain ⟨h7, _⟩ := Bool.and_eq_true_iff.mp (show (tyB sc P.free t (.Name y ⟨0, 0, 0, 0⟩) && tysB sc P.free [] []) = true from h6)
        have h7' : tyB sc P.free t (.Name y p2) = true := h7
        obtain ⟨p, pl⟩ := ty_pe O h7'
        refine se_of (pe_callB call_isi g (free_of O h3) boot_isinstance (pa_cons se_pe (pa_cons p pa_nil (star_of pl _ _)) (star_of h4 _ _)) (by decide) gd (star_of h4 _ _) (by rw [star_of pl] <;> rfl)) (ih O h5 e1 hs hr fun v H0' H' gr r => ?_)
        refine ⟨v, .ty t.nm, _, _, isTy dx t, rfl, .ty _, tyx_of gr.c r hkn, kit_ty (kit_D hkn), ?_⟩
        have := (kd_of gr k).here gr.c (.bl _)
        simpa using this
      | [], h6 => cases h6
      | _ :: _ :: _, h6 =>
        simp only [tysB, Bool.and_false] at h6
        cases h6
    · rename_i n p1 v ys kk p2 pos
      simp only [Bool.and_eq_true] at hc
      obtain ⟨⟨⟨⟨⟨⟨h1, h2⟩, h3⟩, h4⟩, h5⟩, h6⟩, h8⟩ := hc
      have en := of_decide_eq_true h1
      subst en
      obtain ⟨g, gd⟩ := gl_of O.sc h2
      obtain ⟨tt, pt, q⟩ := tys_pa O h6
      have hl : (ts.map fun t => V.ty t.nm).length ≤ sizeLine := by
        rw [List.length_map]
        exact Nat.le_trans (of_decide_eq_true h8) (by decide)
      refine se_of (pe_callB call_isiT g (free_of O h3) boot_isinstance (pa_cons se_pe (pa_cons (pe_tup pt) pa_nil) (star_of h4 _ _)) (by decide) gd (star_of h4 _ _) rfl) (ih O h5 e1 hs hr fun v H0' H' gr r => ?_)
      refine q σ H' _ ⟨hl, fun p hp => ?_⟩
      have g2 := Gr.newT (o := .tup (ts.map fun t => V.ty t.nm)) gr hp
      refine ⟨v, p, _, _, _, ts.any (isTy dx), rfl, upd_same, paired_tys ts, tyx_of (gr.c.trans (same_new hp)) r hkn, kitAny_D hkn ts, ?_⟩
      exact (kd_of g2 k).here g2.c (.bl _)
    · cases hc
  · cases e2

/-! ### len(set(..)), list(range(..)), n.bit_length(), xs.index(y) -/
theorem range_getD (ns : List Int) : (List.range ns.length).map (fun i => ns.getD i 0) = ns := by
  refine List.ext_getElem (by simp) fun i h1 h2 => ?_
  simp only [List.getElem_map, List.getElem_range]
  rw [List.getD_eq_getElem?_getD, List.getElem?_eq_getElem h2]
  rfl
theorem firstMet_eq (ns : List Int) : PyProof.Rows.firstMet (fun i => ns.getD i 0) ns.length = firsts ns := by
  unfold PyProof.Rows.firstMet firsts
  rw [range_getD]
def tLenSet (K : PySem.W.Frag) (ta : TE) : TE := fun σ H Q => ta σ H fun x H1 => ∃ (l : Addr) (ns : List Int), x = .ref l ∧ SqL K H1 l (ns.map V.int) ∧ ns.length ≤ 4000 ∧ Q (.int ((firsts ns).length : Nat)) H1
theorem firsts_le (ns : List Int) : (firsts ns).length ≤ ns.length := by
  rw [← firstMet_eq]
  exact PyProof.Rows.firstMet_length_le _ _
theorem pe_lenSetA {X : Cx} {a : Expr} {ta : TE} {p p2 q pos : Pos} (hg : Gl X "len") (hm : X.mg "len" = none) (hg2 : Gl X "set") (hm2 : X.mg "set" = none) (ha : PE X a ta) (hc : X.calm = true)
    (na : starEach [a] X.env = (false, eval a X.env) :: starEach [] X.env) : PE X (.Call (.Name "len" p) [.Call (.Name "set" p2) [a] [] q] [] pos) (tLenSet X.K ta) := by
  refine ⟨fun pins s σ H Q I h => ?_⟩
  refine Call_ (ld_blt I hg hm boot_len (PyProof.Rows.callWith_builtin1 (PyProof.Rows.args_cons ?_ rfl) rfl rfl))
  refine Call_ (ld_blt I hg2 hm2 boot_set (PyProof.Rows.callWith_type1 (PyProof.Rows.args_cons (thn (ha.run pins s σ H _ I h) ?_) na) na rfl))
  rintro v s1 ⟨x, H1, I1, r1, l, ns, rfl, hq, hl, q1⟩
  refine PyProof.Rows.args_nil ?_
  cases r1
  obtain ⟨its, r, pl, hz⟩ := I1.list hq
  have hlen : its.toArray.size = ns.length := by
    rw [List.size_toArray, ← r.length, List.length_map]
  refine call_set_list (I1.ok.hd hc) pl.isList (by simpa using r.ints) (by rw [hlen]; unfold scanBound; omega) fun h' tk hS hk => PyProof.Rows.args_nil ?_
  rw [hlen, firstMet_eq] at hS
  obtain ⟨o, es, ep, t, ho, hex, hd, _, _, _, hf, hn⟩ := hS
  have I2 : L2.Inv X pins σ H1 { s1 with heap := h', toks := tk } := I1.kept fun b o e => hk b o (Heap.lt_size e) e
  have hfl := firsts_le ns
  exact call_len_set ho hex hd hf (by rw [hn] <;> omega) ⟨.int ((firsts ns).length : Nat), H1, I2.tok _, ⟨_, by rw [hn]⟩, q1⟩
theorem ok_lenset {a} (ih : VOk P a) : VOk P (.lenset a) := by
  intro X sc x env d σ H0 H Q O hc he hs hr k
  unfold chkE at hc
  split at hc
  · simp only [Bool.and_eq_true] at hc
    obtain ⟨⟨⟨⟨⟨⟨⟨h1, h2⟩, h3⟩, h4⟩, h5⟩, h6⟩, h7⟩, h8⟩ := hc
    have en := of_decide_eq_true h1
    have em := of_decide_eq_true h4
    subst en em
    obtain ⟨g, gd⟩ := gl_of O.sc h2
    obtain ⟨g2, gd2⟩ := gl_of O.sc h5
    simp only [evV, Option.bind_eq_some_iff] at he
    obtain ⟨dx, e1, e2⟩ := he
    split at e2
    · simp only [Option.bind_eq_some_iff] at e2
      obtain ⟨ns, e3, e4⟩ := e2
      split at e4
      · rename_i hz
        cases e4
        refine se_of (pe_lenSetA g (free_of O h3) g2 (free_of O h6) se_pe O.calm (star_of h7 _ _)) (ih O h8 e1 hs hr fun v H0' H' gr r => ?_)
        obtain ⟨a, xs, rfl, ha, ra⟩ := r.list_inv
        have ex := ra.ints e3
        subst ex
        exact ⟨a, ns, rfl, .of (gr.c _ _ ha), hz, (kd_of gr k).here gr.c (.int _)⟩
      · cases e4
    · cases e2
  · cases hc
theorem ok_lrng {a} (ih : VOk P a) : VOk P (.lrng a) := by
  intro X sc x env d σ H0 H Q O hc he hs hr k
  unfold chkE at hc
  split at hc
  · simp only [Bool.and_eq_true] at hc
    obtain ⟨⟨⟨⟨⟨⟨⟨h1, h2⟩, h3⟩, h4⟩, h5⟩, h6⟩, h7⟩, h8⟩ := hc
    have en := of_decide_eq_true h1
    have em := of_decide_eq_true h4
    subst en em
    obtain ⟨g, gd⟩ := gl_of O.sc h2
    obtain ⟨g2, gd2⟩ := gl_of O.sc h5
    simp only [evV, Option.bind_eq_some_iff] at he
    obtain ⟨dx, e1, e2⟩ := he
    split at e2
    · split at e2
      · rename_i hz
        simp only [Option.map_eq_some_iff] at e2
        obtain ⟨ds, e3, rfl⟩ := e2
        obtain ⟨_, ed⟩ := rngD_inv e3
        refine se_of (pe_listRg O.calm g (free_of O h3) (prg_1 g2 (free_of O h6) se_pe (star_of h7 _ _))) (ih O h8 e1 hs hr fun v H0' H' gr r => ?_)
        cases r
        refine ⟨_, rfl, RgOk.of_le (by omega) hz.2 (by omega) hz.1, fun q hq => (kd_of gr k).newL gr.c hq ?_⟩
        rw [ed]
        unfold rgV
        have gen : ∀ ks : List Nat, RpAll X.K H0' (ks.map fun i => V.int (0 + (i : Nat))) (ks.map fun (k : Nat) => PyData.int (0 + (k : Int))) := fun ks => by
          induction ks with
          | nil => exact .nil
          | cons k ks ih => exact .cons (.int _) ih
        exact gen _
      · cases e2
    · cases e2
  · cases hc
theorem base_of {v : Expr} (h : baseB v = true) (n : Str) (env : Env) (w : Sem Value) : attributeBase v n env w = w := by
  cases v <;> first | rfl | cases h
theorem ok_bits {a} (ih : VOk P a) : VOk P (.bits a) := by
  intro X sc x env d σ H0 H Q O hc he hs hr k
  unfold chkE at hc
  split at hc
  · simp only [Bool.and_eq_true] at hc
    obtain ⟨⟨⟨h1, h2⟩, h3⟩, h4⟩ := hc
    have en := of_decide_eq_true h1
    subst en
    simp only [evV, Option.bind_eq_some_iff] at he
    obtain ⟨dx, e1, e2⟩ := he
    split at e2
    · cases e2
      refine se_of (pe_bits se_pe (base_of h3 _ _ _) (by simpa using of_decide_eq_true h2)) (ih O h4 e1 hs hr fun v H0' H' gr r => ?_)
      cases r
      exact ⟨_, rfl, (kd_of gr k).here gr.c (.int _)⟩
    · cases e2
  · cases hc
theorem find_inv : ∀ {ds : List D} {p : D → Bool} {j : Nat}, ds.findIdx? p = some j → (∃ z, ds[j]? = some z ∧ p z = true) ∧ ∀ (m : Nat) (z' : D), m < j → ds[m]? = some z' → p z' = false := by
  intro ds p j h
  rw [List.findIdx?_eq_some_iff_getElem] at h
  obtain ⟨h1, h2, h3⟩ := h
  refine ⟨⟨ds[j], List.getElem?_eq_getElem h1, h2⟩, fun m z' hm hz => ?_⟩
  have h4 := h3 m hm
  rw [List.getElem?_eq_getElem (by omega)] at hz
  cases hz
  simpa using h4
theorem ok_index {a b} (ia : VOk P a) (ib : VOk P b) : VOk P (.index a b) := by
  intro X sc x env d σ H0 H Q O hc he hs hr k
  unfold chkE at hc
  split at hc
  · simp only [Bool.and_eq_true] at hc
    obtain ⟨⟨⟨⟨⟨h1, h2⟩, h3⟩, h4⟩, h5⟩, h6⟩ := hc
    have en := of_decide_eq_true h1
    subst en
    simp only [evV, Option.bind_eq_some_iff] at he
    obtain ⟨dx, e1, dy, e2, e3⟩ := he
    split at e3
    · split at e3
      · rename_i hz
        obtain ⟨z1, z2⟩ := Bool.and_eq_true_iff.mp hz
        simp only [Option.map_eq_some_iff] at e3
        obtain ⟨j, ej, rfl⟩ := e3
        obtain ⟨⟨z, hz1, hz2⟩, hz3⟩ := find_inv ej
        refine se_of (pe_bm PySem.F.plainAttrs_list PySem.F.slot_list_index PySem.F.type_list_index (mt_indexD O.hu) se_pe (pa_cons se_pe pa_nil (star_of h4 _ _)) (base_of h3 _ _ _) (by rw [star_of h4]; rfl) (by simpa using of_decide_eq_true h2) (star_of h4 _ _) rfl) (ia O h5 e1 hs hr fun v H0' H' gr r => ?_)
        obtain ⟨a, xs, rfl, ha, ra⟩ := r.list_inv
        refine ⟨.inl ⟨rfl, xs, .of (gr.c _ _ ha)⟩, ib O h6 e2 gr.c (hr.mono gr.b) fun w H1' H1 g1 r1 => ?_⟩
        have rl := ((r.mono g1.b).mono g1.c).dp (shp_lay z1)
        refine ⟨a, w, dy, _, j, z, rfl, rfl, rl, (r1.mono g1.c).dp (shp_lay z2), z1, z2, hz1, hz2, hz3, (kd_of (gr.trans g1) k).here g1.c (.int _)⟩
      · cases e3
    · cases e3
  · cases hc

/-! ### the whole -/
theorem tk_std {e : E} (h : VOk P e) (hp : ∀ sc x, chkE P e sc x = true → tstB x = true → (match x with | .UnaryOp .Not _ _ => false | .BoolOp _ _ _ => false | .Compare _ _ _ _ => false | _ => true) = true) : TOk P e :=
  tk_val h fun sc x hc ht env wh => by
    have q := hp sc x hc ht
    cases x with
    | UnaryOp op v pos =>
      cases op with
      | Not => cases q
      | _ => rfl
    | BoolOp _ _ _ => cases q
    | Compare _ _ _ _ => cases q
    | IfExp _ _ _ _ => cases ht
    | _ => rfl
end Eng
set_option maxRecDepth 100000
set_option maxHeartbeats 4000000
/-! EngI: the evaluator's soundness as a whole. -/
namespace Eng
open PySem PySem.Spec PyProof.Rows L2
variable {P : Prg}
local macro_rules | `(tactic| walk_at "eng-std") => `(tactic| (intro sc x hc ht; unfold chkE at hc; split at hc <;> first | rfl | cases hc | cases ht))
mutual
theorem all_E (P : Prg) : ∀ e : E, VOk P e ∧ TOk P e
  | .non => ⟨ok_non, tk_std ok_non (by walk_at "eng-std")⟩
  | .bl b => ⟨ok_bl, tk_std ok_bl (by walk_at "eng-std")⟩
  | .int i => ⟨ok_int, tk_std ok_int (by walk_at "eng-std")⟩
  | .str x => ⟨ok_str, tk_std ok_str (by walk_at "eng-std")⟩
  | .var i => ⟨ok_var, tk_std ok_var (by walk_at "eng-std")⟩
  | .con x i => ⟨ok_con, tk_std ok_con (by walk_at "eng-std")⟩
  | .lst es => ⟨ok_lst (esOk_of (all_Es P es).1), tk_std (ok_lst (esOk_of (all_Es P es).1)) (by walk_at "eng-std")⟩
  | .tup es => ⟨ok_tup (esOk_of (all_Es P es).1), tk_std (ok_tup (esOk_of (all_Es P es).1)) (by walk_at "eng-std")⟩
  | .bin o a b => ⟨ok_bin (all_E P a).1 (all_E P b).1, tk_std (ok_bin (all_E P a).1 (all_E P b).1) (by walk_at "eng-std")⟩
  | .neg a => ⟨ok_neg (all_E P a).1, tk_std (ok_neg (all_E P a).1) (by walk_at "eng-std")⟩
  | .cmp o a b => ⟨ok_cmp (all_E P a).1 (all_E P b).1, tk_cmp (all_E P a).1 (all_E P b).1⟩
  | .chn o o' a b c => ⟨ok_chn (all_E P a).1 (all_E P b).1 (all_E P c).1, tk_chn (all_E P a).1 (all_E P b).1 (all_E P c).1⟩
  | .bop k es => ⟨ok_bop (all_Es P es).2, tk_bop (all_Es P es).2⟩
  | .not a => ⟨ok_not (all_E P a).1, tk_not (all_E P a).2⟩
  | .ifx t a b => ⟨ok_ifx (all_E P t).2 (all_E P a).1 (all_E P b).1, tk_std (ok_ifx (all_E P t).2 (all_E P a).1 (all_E P b).1) (by walk_at "eng-std")⟩
  | .idx a i => ⟨ok_idx (all_E P a).1 (all_E P i).1, tk_std (ok_idx (all_E P a).1 (all_E P i).1) (by walk_at "eng-std")⟩
  | .slc a lo hi => ⟨ok_slc (all_E P a).1 (all_E P lo).1 (all_E P hi).1, tk_std (ok_slc (all_E P a).1 (all_E P lo).1 (all_E P hi).1) (by walk_at "eng-std")⟩
  | .omt => ⟨ok_omt, tk_std ok_omt (by intro sc x hc; cases hc)⟩
  | .lc elt tg it => ⟨ok_lc (all_It P it) (all_E P elt).1, tk_std (ok_lc (all_It P it) (all_E P elt).1) (by walk_at "eng-std")⟩
  | .lcc elt tg it cnd => ⟨ok_lcc (all_It P it) (all_E P elt).1 (all_E P cnd).2, tk_std (ok_lcc (all_It P it) (all_E P elt).1 (all_E P cnd).2) (by walk_at "eng-std")⟩
  | .call f es => ⟨ok_call (esOk_of (all_Es P es).1), tk_std (ok_call (esOk_of (all_Es P es).1)) (by walk_at "eng-std")⟩
  | .callk f es ks pm => ⟨ok_callk (all_Es P es).1, tk_std (ok_callk (all_Es P es).1) (by walk_at "eng-std")⟩
  | .blt b es => ⟨ok_blt (esOk_of (all_Es P es).1), tk_std (ok_blt (esOk_of (all_Es P es).1)) (by walk_at "eng-std")⟩
  | .isi a ts => ⟨ok_isi (all_E P a).1, tk_std (ok_isi (all_E P a).1) (by walk_at "eng-std")⟩
  | .lenset a => ⟨ok_lenset (all_E P a).1, tk_std (ok_lenset (all_E P a).1) (by walk_at "eng-std")⟩
  | .lrng a => ⟨ok_lrng (all_E P a).1, tk_std (ok_lrng (all_E P a).1) (by walk_at "eng-std")⟩
  | .bits a => ⟨ok_bits (all_E P a).1, tk_std (ok_bits (all_E P a).1) (by walk_at "eng-std")⟩
  | .index a b => ⟨ok_index (all_E P a).1 (all_E P b).1, tk_std (ok_index (all_E P a).1 (all_E P b).1) (by walk_at "eng-std")⟩
theorem all_Es (P : Prg) : ∀ es : Es, EsAll P es ∧ BOk P es
  | .nil => ⟨trivial, bk_nil⟩
  | .cons e es => ⟨⟨(all_E P e).1, (all_Es P es).1⟩, bk_cons (all_E P e).1 (all_E P e).2 (all_Es P es).2⟩
theorem all_It (P : Prg) : ∀ it : It, ItOk P it
  | .seq e => it_seq (all_E P e).1
  | .rng1 a => it_rng1 (all_E P a).1
  | .rng2 a b => it_rng2 (all_E P a).1 (all_E P b).1
  | .enm e => it_enm (all_E P e).1
end
end Eng
set_option maxRecDepth 100000
set_option maxHeartbeats 4000000
/-! EngJ: owned lists, statements: the syntax and its evaluator. -/
namespace Eng
open PySem

/-- data with what is owned: a list that nobody else sees may change -/
inductive T where
  | fz (d : D)
  | own (xs : List T)
mutual
def T.data : T → D
  | .fz d => d
  | .own xs => .list (T.datas xs)
def T.datas : List T → List D
  | [] => []
  | t :: ts => t.data :: T.datas ts
end
/-- a slot: its value; pin: its value stays at its place (a parameter that is handed on, a list's item) -/
inductive Sl where
  | val (t : T)
  | pin (t : T)
def Sl.t : Sl → T
  | .val t => t
  | .pin t => t
def Sl.put : Sl → T → Sl
  | .val _, t => .val t
  | .pin _, t => .pin t
abbrev TEnv := List (Option Sl)
inductive Ar where
  | val (d : D)
  | io (t : T)
abbrev CallT := Str → List Ar → Option (T × List T)
/-- the calls whose arguments are all plain data -/
def cD (c : CallT) : CallD := fun f ds => match c f (ds.map Ar.val) with
  | some (t, []) => some t.data
  | _ => none
def dSl : Option Sl → Option D
  | some s => some s.t.data
  | none => none
def fSl : Option Sl → Option D
  | some (.val (.fz d)) => some d
  | some (.pin (.fz d)) => some d
  | _ => none
def dEnv (env : TEnv) : DEnv := env.map dSl
def fEnv (env : TEnv) : DEnv := env.map fSl
def scal : D → Bool
  | .none => true
  | .bool _ => true
  | .int _ => true
  | .str _ => true
  | _ => false
def sl (env : TEnv) (s : Nat) : Option Sl := (env[s]?).join

mutual
inductive TX where
  | sc (e : E)
  | fr (e : E)
  | mv (s : Nat)
  | lst (xs : TXs)
  | cmp (elt : TX) (tg : Tg) (it : IX)
  | listof (e : E)
  | rep (x n : E)
  | call (f : Str) (as : AXs)
  | pop (s : Nat) (i : TX)
  | bin (o : Operator) (a b : TX)
  | idv (s : Nat) (i : TX)
  | not (a : TX)
  | rel (o : CmpOp) (a b : TX)
inductive TXs where
  | nil | cons (x : TX) (xs : TXs)
inductive AXs where
  | nil | val (x : TX) (as : AXs) | io (s : Nat) (as : AXs)
inductive IX where
  | fz (it : It) | rng (x : TX)
end
mutual
inductive S where
  | ex (x : TX)
  | asg (s : Nat) (x : TX)
  | par (s1 s2 : Nat) (x1 x2 : TX)
  | aug (s : Nat) (o : Operator) (e : E)
  | app (s : Nat) (x : TX)
  | appi (s : Nat) (i : E) (x : E)
  | set1 (s : Nat) (i : E) (x : TX)
  | set2 (s : Nat) (i j : E) (x : TX)
  | iff (t : E) (a b : Ss)
  | iffx (t : TX) (a b : Ss)
  | for_ (tg : Tg) (it : IX) (body : Ss)
  | forO (x s : Nat) (body : Ss)
  | whl (t : E) (body : Ss)
  | ret (x : TX)
  | retN
  | brk
  | cnt
  | pas
  | nev
  | frz (s : Nat)
inductive Ss where
  | nil | cons (s : S) (ss : Ss)
end
inductive Out where
  | nx (env : TEnv)
  | rt (t : T) (env : TEnv)
  | bk (env : TEnv)
  | ct (env : TEnv)

/-! ### helpers -/
def fzs (ds : List D) : List T := ds.map T.fz
/-- slots forgotten; none of them is pinned -/
def clr : List Nat → TEnv → Option TEnv
  | [], env => some env
  | i :: is, env => match sl env i with
    | some (.pin _) => none
    | _ => clr is (env.set i none)
/-- a slot is stored -/
def put (env : TEnv) (i : Nat) (t : T) : Option TEnv := match sl env i with
  | some (.pin _) => none
  | _ => some (env.set i (some (.val t)))
def puts : List Nat → List T → TEnv → Option TEnv
  | i :: is, t :: ts, env => (put env i t).bind (puts is ts)
  | _, _, env => some env
def bindT (tg : Tg) (d : D) (env : TEnv) : Option TEnv := match tg, d with
  | .one i, d => put env i (.fz d)
  | .two i j, .tuple [a, b] => (put env i (.fz a)).bind fun env => put env j (.fz b)
  | .thr i j k, .tuple [a, b, c] => (put env i (.fz a)).bind fun env => (put env j (.fz b)).bind fun env => put env k (.fz c)
  | _, _ => none
def cmpX (f : D → TEnv → Option (T × TEnv)) (is : List Nat) : List D → TEnv → Option (List T × TEnv)
  | [], env => some ([], env)
  | d :: ds, env => (f d env).bind fun (t, env1) => (clr is env1).bind fun env2 => (cmpX f is ds env2).map fun (ts, env3) => (t :: ts, env3)
/-- an argument as it is handed on -/
inductive Ah where
  | val (d : D)
  | io (s : Nat)
def arOf (env : TEnv) : List Ah → Option (List Ar)
  | [] => some []
  | .val d :: as => (arOf env as).map (.val d :: ·)
  | .io s :: as => match sl env s with
    | some u => (arOf env as).map (.io u.t :: ·)
    | none => none
def iosOf : List Ah → List Nat
  | [] => []
  | .val _ :: as => iosOf as
  | .io s :: as => s :: iosOf as
/-- the slots that were handed on, as they come back -/
def back : List Nat → List T → TEnv → Option TEnv
  | [], [], env => some env
  | s :: ss, t :: ts, env => match sl env s with
    | some u => back ss ts (env.set s (some (u.put t)))
    | none => none
  | _, _, _ => none
def setI (xs : List T) (i : D) (t : T) : Option (List T) := match i with
  | .int k => (L2.ixN xs.length k).map fun j => xs.set j t
  | _ => none
def getI (xs : List T) (i : D) : Option T := match i with
  | .int k => L2.atI xs k
  | _ => none
def idxOf (n : Nat) (i : D) : Option Nat := match i with
  | .int k => L2.ixN n k
  | _ => none

def ownAt (env : TEnv) (s : Nat) : Bool := match sl env s with
  | some u => (match u.t with | .own _ => true | _ => false)
  | none => false
mutual
def evX (c : CallT) : TX → TEnv → Option (T × TEnv)
  | .sc e, env => (evV (cD c) e (dEnv env)).bind fun d => if scal d then some (.fz d, env) else none
  | .fr e, env => (evV (cD c) e (fEnv env)).map fun d => (.fz d, env)
  | .mv s, env => match sl env s with
    | some (.val t) => some (t, env.set s none)
    | _ => none
  | .lst xs, env => (evXs c xs env).bind fun (ts, env1) => if ts.length ≤ big then some (.own ts, env1) else none
  | .cmp elt tg it, env => (itX c it env).bind fun (ds, env1) => if ds.length < big then
      (clr (tgIx tg) env1).bind fun env2 => (cmpX (fun d env => (bindT tg d env).bind fun env' => evX c elt env') (tgIx tg) ds env2).map fun (ts, env3) => (.own ts, env3) else none
  | .listof e, env => (evV (cD c) e (dEnv env)).bind fun d => match d with
    | .list ds => if ds.all scal then some (.own (fzs ds), env) else none
    | _ => none
  | .rep x n, env => (evV (cD c) x (dEnv env)).bind fun d => (evV (cD c) n (dEnv env)).bind fun m => match m with
    | .int k => if scal d && decide (k < 2 ^ 24) && decide (-(2 ^ 63) ≤ k) then some (.own (List.replicate k.toNat (.fz d)), env) else none
    | _ => none
  | .call f as, env => (evAs c as env).bind fun (hs, env1) => (arOf env1 hs).bind fun ars => if (iosOf hs).Nodup then (c f ars).bind fun (t, ts) => (back (iosOf hs) ts env1).map fun env2 => (t, env2) else none
  | .pop s i, env => if ownAt env s then (evX c i env).bind fun (k, env1) => match k, sl env1 s with
    | .fz (.int k), some u => (match u.t with
      | .own ts => if -(2 ^ 63) ≤ k ∧ k < 2 ^ 63 then (L2.ixN ts.length k).bind fun j => (ts[j]?).map fun t => (t, env1.set s (some (u.put (.own (ts.eraseIdx j))))) else none
      | _ => none)
    | _, _ => none else none
  | .bin o a b, env => (evX c a env).bind fun (x, env1) => (evX c b env1).bind fun (y, env2) => match x, y with
    | .fz d, .fz e => (match (if scal d && scal e then binV o d e else none) with
      | some g => some (.fz g, env2)
      | none => none)
    | _, _ => none
  | .idv s i, env => if (sl env s).isSome then (evX c i env).bind fun (k, env1) => match k, sl env1 s with
    | .fz (.int k), some u => (match u.t with
      | .fz (.list ds) => (L2.atI ds k).map fun d => (.fz d, env1)
      | .own ts => (match L2.atI ts k with
        | some (.fz d) => if scal d then some (.fz d, env1) else none
        | _ => none)
      | _ => none)
    | _, _ => none else none
  | .not a, env => (evX c a env).bind fun (x, env1) => match x with
    | .fz d => (truth d).map fun b => (.fz (.bool (!b)), env1)
    | _ => none
  | .rel o a b, env => (evX c a env).bind fun (x, env1) => (evX c b env1).bind fun (y, env2) => match x, y with
    | .fz d, .fz e => (match (if scal d && scal e then cmpV o d e else none) with
      | some g => some (.fz g, env2)
      | none => none)
    | _, _ => none
def evXs (c : CallT) : TXs → TEnv → Option (List T × TEnv)
  | .nil, env => some ([], env)
  | .cons x xs, env => (evX c x env).bind fun (t, env1) => (evXs c xs env1).map fun (ts, env2) => (t :: ts, env2)
def evAs (c : CallT) : AXs → TEnv → Option (List Ah × TEnv)
  | .nil, env => some ([], env)
  | .val x as, env => (evX c x env).bind fun (t, env1) => (evAs c as env1).map fun (hs, env2) => (.val t.data :: hs, env2)
  | .io s as, env => match sl env s with
    | some _ => (evAs c as env).map fun (hs, env1) => (.io s :: hs, env1)
    | none => none
def itX (c : CallT) : IX → TEnv → Option (List D × TEnv)
  | .fz it, env => (itV (cD c) it (fEnv env)).map fun ds => (ds, env)
  | .rng x, env => (evX c x env).bind fun (t, env1) => match t with
    | .fz (.int n) => (rngD 0 n).map fun ds => (ds, env1)
    | _ => none
end

def forL {α : Type} (f : α → TEnv → Option Out) : List α → TEnv → Option Out
  | [], env => some (.nx env)
  | d :: ds, env => (f d env).bind fun o => match o with
    | .nx env1 => forL f ds env1
    | .ct env1 => forL f ds env1
    | .bk env1 => some (.nx env1)
    | .rt t env1 => some (.rt t env1)
def whileL (t : TEnv → Option Bool) (f : TEnv → Option Out) : Nat → TEnv → Option Out
  | 0, _ => none
  | n + 1, env => (t env).bind fun b => if b then (f env).bind fun o => (match o with
      | .nx env1 => whileL t f n env1
      | .ct env1 => whileL t f n env1
      | .bk env1 => some (.nx env1)
      | .rt t env1 => some (.rt t env1)) else some (.nx env)

mutual
def exS (c : CallT) (fuel : Nat) : S → TEnv → Option Out
  | .ex x, env => (evX c x env).map fun (_, env1) => .nx env1
  | .asg s x, env => (evX c x env).bind fun (t, env1) => (put env1 s t).map .nx
  | .par s1 s2 x1 x2, env => (evX c x1 env).bind fun (t1, env1) => (evX c x2 env1).bind fun (t2, env2) => if s1 = s2 then none else (put env2 s1 t1).bind fun env3 => (put env3 s2 t2).map .nx
  | .aug s o e, env => (evV (cD c) e (dEnv env)).bind fun y => match sl env s with
    | some (.val (.fz (.int x))) => (match o, y with
      | .Add, .int j => some (.nx (env.set s (some (.val (.fz (.int (x + j)))))))
      | .Sub, .int j => some (.nx (env.set s (some (.val (.fz (.int (x - j)))))))
      | _, _ => none)
    | _ => none
  | .app s x, env => if ownAt env s then (evX c x env).bind fun (t, env1) => match sl env1 s with
    | some u => (match u.t with
      | .own ts => if ts.length < big then some (.nx (env1.set s (some (u.put (.own (ts ++ [t])))))) else none
      | _ => none)
    | none => none else none
  | .appi s i x, env => (evV (cD c) i (dEnv env)).bind fun iv => (evV (cD c) x (dEnv env)).bind fun d => if scal d then (match sl env s with
    | some u => (match u.t with
      | .own ts => (idxOf ts.length iv).bind fun j => (match ts[j]? with
        | some (.own us) => if us.length < big then some (.nx (env.set s (some (u.put (.own (ts.set j (.own (us ++ [.fz d])))))))) else none
        | _ => none)
      | _ => none)
    | none => none) else none
  | .set1 s i x, env => (evX c x env).bind fun (t, env1) => (evV (cD c) i (dEnv env1)).bind fun iv => match sl env1 s with
    | some u => (match u.t with
      | .own ts => (idxOf ts.length iv).map fun j => .nx (env1.set s (some (u.put (.own (ts.set j t)))))
      | _ => none)
    | none => none
  | .set2 s i j x, env => (evX c x env).bind fun (t, env1) => (evV (cD c) i (dEnv env1)).bind fun iv => (evV (cD c) j (dEnv env1)).bind fun jv => match sl env1 s with
    | some u => (match u.t with
      | .own ts => (idxOf ts.length iv).bind fun a => (match ts[a]? with
        | some (.own us) => (idxOf us.length jv).map fun b => .nx (env1.set s (some (u.put (.own (ts.set a (.own (us.set b t)))))))
        | _ => none)
      | _ => none)
    | none => none
  | .iff t a b, env => ((evV (cD c) t (dEnv env)).bind truth).bind fun k => if k then exSs c fuel a env else exSs c fuel b env
  | .iffx t a b, env => (evX c t env).bind fun (x, env1) => match x with
    | .fz d => (truth d).bind fun k => if k then exSs c fuel a env1 else exSs c fuel b env1
    | _ => none
  | .for_ tg it body, env => (itX c it env).bind fun (ds, env1) => forL (fun d env => (bindT tg d env).bind fun env' => exSs c fuel body env') ds env1
  | .forO x s body, env => match sl env s with
    | some (.val (.own ts)) => forL (fun t env => (put env x t).bind fun env' => exSs c fuel body env') ts (env.set s none)
    | _ => none
  | .whl t body, env => whileL (fun env => (evV (cD c) t (dEnv env)).bind truth) (fun env => exSs c fuel body env) fuel env
  | .ret x, env => (evX c x env).map fun (t, env1) => .rt t env1
  | .retN, env => some (.rt (.fz .none) env)
  | .brk, env => some (.bk env)
  | .cnt, env => some (.ct env)
  | .pas, env => some (.nx env)
  | .nev, _ => none
  | .frz s, env => match sl env s with
    | some (.val t) => some (.nx (env.set s (some (.val (.fz t.data)))))
    | _ => none
def exSs (c : CallT) (fuel : Nat) : Ss → TEnv → Option Out
  | .nil, env => some (.nx env)
  | .cons s ss, env => (exS c fuel s env).bind fun o => match o with
    | .nx env1 => exSs c fuel ss env1
    | .rt t env1 => some (.rt t env1)
    | .bk env1 => some (.bk env1)
    | .ct env1 => some (.ct env1)
end

/-! ### a program -/
structure FnD where
  name : Str
  params : List Str
  N : List Str
  body : Ss
def slOf : Ar → Option Sl
  | .val d => some (.val (.fz d))
  | .io t => some (.pin t)
/-- the parameters that were handed on, as the body leaves them -/
def iosBack : List Ar → TEnv → Option (List T)
  | [], _ => some []
  | .val _ :: as, _ :: env => iosBack as env
  | .io _ :: as, some (.pin t) :: env => (iosBack as env).map (t :: ·)
  | _, _ => none
def runF (c : CallT) (fuel : Nat) (f : FnD) (as : List Ar) : Option (T × List T) :=
  if as.length = f.params.length then
    (exSs c fuel f.body (as.map slOf ++ List.replicate (f.N.length - as.length) none)).bind fun o => match o with
      | .rt t env => (iosBack as env).map fun ts => (t, ts)
      | .nx env => (iosBack as env).map fun ts => (.fz .none, ts)
      | _ => none
  else none
def fnOf : List FnD → Str → Option FnD
  | [], _ => none
  | f :: fs, x => if f.name = x then some f else fnOf fs x
/-- calls of so many levels -/
def callF (fs : List FnD) (fuel : Nat) : Nat → CallT
  | 0 => fun _ _ => none
  | k + 1 => fun x as => (fnOf fs x).bind fun f => runF (callF fs fuel k) fuel f as
end Eng
set_option maxRecDepth 100000
set_option maxHeartbeats 4000000
/-! EngK: what stands for owned lists; how the state moves. -/
namespace Eng
open PySem PySem.Spec PyProof.Rows L2

mutual
inductive RpT (K : PySem.W.Frag) (H0 H : Hp) : V → T → List Addr → Prop
  | fz {v : V} {d : D} : Rp K H0 v d → RpT K H0 H v (.fz d) []
  | own {a : Addr} {vs : List V} {ts : List T} {as : List Addr} : H a = some (.lst vs) → RpTs K H0 H vs ts as → a ∉ as → RpT K H0 H (.ref a) (.own ts) (a :: as)
inductive RpTs (K : PySem.W.Frag) (H0 H : Hp) : List V → List T → List Addr → Prop
  | nil : RpTs K H0 H [] [] []
  | cons {v : V} {t : T} {as : List Addr} {vs : List V} {ts : List T} {bs : List Addr} : RpT K H0 H v t as → RpTs K H0 H vs ts bs → (∀ x ∈ as, x ∉ bs) → RpTs K H0 H (v :: vs) (t :: ts) (as ++ bs)
end
section
variable {K : PySem.W.Frag} {H0 H H0' H' : Hp}
mutual
theorem RpT.frame : ∀ {v : V} {t : T} {as : List Addr}, RpT K H0 H v t as → Same H0 H0' → (∀ x ∈ as, H' x = H x) → RpT K H0' H' v t as
  | _, _, _, .fz r, s, _ => .fz (r.mono s)
  | _, _, _, .own h r n, s, k => .own ((k _ List.mem_cons_self).trans h) (RpTs.frame r s fun x hx => k x (List.mem_cons_of_mem _ hx)) n
theorem RpTs.frame : ∀ {vs : List V} {ts : List T} {as : List Addr}, RpTs K H0 H vs ts as → Same H0 H0' → (∀ x ∈ as, H' x = H x) → RpTs K H0' H' vs ts as
  | _, _, _, .nil, _, _ => .nil
  | _, _, _, .cons a b d, s, k => .cons (RpT.frame a s fun x hx => k x (List.mem_append_left _ hx)) (RpTs.frame b s fun x hx => k x (List.mem_append_right _ hx)) d
end
mutual
theorem RpT.rp (s : Same H0 H) : ∀ {v : V} {t : T} {as : List Addr}, RpT K H0 H v t as → Rp K H v t.data
  | _, _, _, .fz r => r.mono s
  | _, _, _, .own h r _ => .lst h (RpTs.rp s r)
theorem RpTs.rp (s : Same H0 H) : ∀ {vs : List V} {ts : List T} {as : List Addr}, RpTs K H0 H vs ts as → RpAll K H vs (T.datas ts)
  | _, _, _, .nil => .nil
  | _, _, _, .cons a b _ => .cons (RpT.rp s a) (RpTs.rp s b)
end
/-! what is owned stands in the heap -/
mutual
theorem RpT.there : ∀ {v : V} {t : T} {as : List Addr}, RpT K H0 H v t as → ∀ x ∈ as, H x ≠ none
  | _, _, _, .fz _, _, h => nomatch h
  | _, _, _, .own h r _, x, hx => by
    rcases List.mem_cons.mp hx with e | hx
    · rw [e, h]
      exact fun z => nomatch z
    · exact RpTs.there r x hx
theorem RpTs.there : ∀ {vs : List V} {ts : List T} {as : List Addr}, RpTs K H0 H vs ts as → ∀ x ∈ as, H x ≠ none
  | _, _, _, .nil, _, h => nomatch h
  | _, _, _, .cons a b _, x, hx => (List.mem_append.mp hx).elim (RpT.there a x) (RpTs.there b x)
end
/-! frozen: the cells that were owned are fixed from now on -/
mutual
theorem RpT.froze (s : Same H0 H0') : ∀ {v : V} {t : T} {as : List Addr}, RpT K H0 H v t as → (∀ x ∈ as, H0' x = H x) → Rp K H0' v t.data
  | _, _, _, .fz r, _ => r.mono s
  | _, _, _, .own h r _, k => .lst ((k _ List.mem_cons_self).trans h) (RpTs.froze s r fun x hx => k x (List.mem_cons_of_mem _ hx))
theorem RpTs.froze (s : Same H0 H0') : ∀ {vs : List V} {ts : List T} {as : List Addr}, RpTs K H0 H vs ts as → (∀ x ∈ as, H0' x = H x) → RpAll K H0' vs (T.datas ts)
  | _, _, _, .nil, _ => .nil
  | _, _, _, .cons a b _, k => .cons (RpT.froze s a fun x hx => k x (List.mem_append_left _ hx)) (RpTs.froze s b fun x hx => k x (List.mem_append_right _ hx))
end
theorem RpTs.length : ∀ {vs : List V} {ts : List T} {as : List Addr}, RpTs K H0 H vs ts as → vs.length = ts.length
  | _, _, _, .nil => rfl
  | _, _, _, .cons _ b _ => by rw [List.length_cons, List.length_cons, RpTs.length b]
theorem RpTs.split : ∀ {us : List V} {ts1 : List T} {vs : List V} {ts : List T} {as : List Addr}, us.length = ts1.length → RpTs K H0 H (us ++ vs) (ts1 ++ ts) as → ∃ bs cs, RpTs K H0 H us ts1 bs ∧ RpTs K H0 H vs ts cs ∧ (∀ x ∈ bs, x ∉ cs) ∧ as = bs ++ cs
  | [], [], _, _, as, _, r => ⟨[], as, .nil, r, (fun _ h => nomatch h), rfl⟩
  | [], _ :: _, _, _, _, h, _ => nomatch h
  | _ :: _, [], _, _, _, h, _ => nomatch h
  | u :: us, t :: ts1, vs, ts, _, h, .cons (as := a) (bs := b) ra rb d => by
    obtain ⟨bs, cs, r1, r2, d2, rfl⟩ := RpTs.split (Nat.succ.inj h) rb
    refine ⟨a ++ bs, cs, .cons ra r1 fun x hx hb => d x hx (List.mem_append_left _ hb), r2, fun x hx hc => ?_, (List.append_assoc _ _ _).symm⟩
    rcases List.mem_append.mp hx with q | q
    · exact d x q (List.mem_append_right _ hc)
    · exact d2 x q hc
theorem RpTs.join : ∀ {us : List V} {ts1 : List T} {vs : List V} {ts : List T} {bs cs : List Addr}, RpTs K H0 H us ts1 bs → RpTs K H0 H vs ts cs → (∀ x ∈ bs, x ∉ cs) → RpTs K H0 H (us ++ vs) (ts1 ++ ts) (bs ++ cs)
  | _, _, _, _, _, _, .nil, r, _ => r
  | _, _, _, _, _, _, .cons (as := a) (bs := b) ra rb d, r, d2 => by
    rw [List.append_assoc]
    refine .cons ra (RpTs.join rb r fun x hx => d2 x (List.mem_append_right _ hx)) fun x hx hy => ?_
    rcases List.mem_append.mp hy with q | q
    · exact d x hx q
    · exact d2 x (List.mem_append_left _ hx) q
theorem RpTs.one {v : V} {t : T} {as : List Addr} (r : RpT K H0 H v t as) : RpTs K H0 H [v] [t] as := by
  have := RpTs.cons r .nil (bs := []) fun x _ h => nomatch h
  rw [List.append_nil] at this
  exact this
theorem RpTs.one_inv {v : V} {t : T} {as : List Addr} (r : RpTs K H0 H [v] [t] as) : RpT K H0 H v t as := by
  cases r with
  | cons a b d =>
    cases b
    rw [List.append_nil]
    exact a
/-- an item of an owned list, and what stands around it -/
theorem RpTs.at_ {vs : List V} {ts : List T} {as : List Addr} {j : Nat} {t : T} (r : RpTs K H0 H vs ts as) (h : ts[j]? = some t) : ∃ (v : V) (aj rest : List Addr), vs[j]? = some v ∧ RpT K H0 H v t aj ∧ (∀ x ∈ aj, x ∈ as) ∧ (∀ x ∈ rest, x ∈ as) ∧ (∀ x ∈ aj, x ∉ rest) ∧
    (∀ (H0' H' : Hp) (v' : V) (t' : T) (bs : List Addr), Same H0 H0' → (∀ x ∈ rest, H' x = H x) → RpT K H0' H' v' t' bs → (∀ x ∈ bs, x ∉ rest) → ∃ cs, RpTs K H0' H' (vs.set j v') (ts.set j t') cs ∧ ∀ x ∈ cs, x ∈ rest ∨ x ∈ bs) ∧
    RpTs K H0 H (vs.eraseIdx j) (ts.eraseIdx j) rest := by
  obtain ⟨hj, e⟩ := List.getElem?_eq_some_iff.mp h
  have hv : j < vs.length := by rw [r.length]; exact hj
  have e1 : vs = vs.take j ++ (vs[j] :: vs.drop (j + 1)) := by
    rw [← List.drop_eq_getElem_cons hv, List.take_append_drop]
  have e2 : ts = ts.take j ++ (t :: ts.drop (j + 1)) := by
    rw [← e, ← List.drop_eq_getElem_cons hj, List.take_append_drop]
  have l1 : (vs.take j).length = (ts.take j).length := by rw [List.length_take, List.length_take, r.length]
  have r' := r
  rw [e1, e2] at r'
  obtain ⟨bs, cs, rb, rc, d, rfl⟩ := RpTs.split l1 r'
  obtain ⟨a2, c2, ra, rd, d2, rfl⟩ : ∃ a2 c2, RpT K H0 H vs[j] t a2 ∧ RpTs K H0 H (vs.drop (j + 1)) (ts.drop (j + 1)) c2 ∧ (∀ x ∈ a2, x ∉ c2) ∧ cs = a2 ++ c2 := by
    cases rc with
    | cons x y z => exact ⟨_, _, x, y, z, rfl⟩
  have sv : ∀ v', vs.set j v' = vs.take j ++ (v' :: vs.drop (j + 1)) := fun v' => List.set_eq_take_append_cons_drop.trans (if_pos hv)
  have st : ∀ t', ts.set j t' = ts.take j ++ (t' :: ts.drop (j + 1)) := fun t' => List.set_eq_take_append_cons_drop.trans (if_pos hj)
  refine ⟨vs[j], a2, bs ++ c2, List.getElem?_eq_getElem hv, ra, fun x hx => by simp [hx], fun x hx => ?_, fun x hx hy => ?_, fun H0' H' v' t' as' s k rn dn => ?_, ?_⟩
  · rcases List.mem_append.mp hx with q | q
    · simp [q]
    · simp [q]
  · rcases List.mem_append.mp hy with q | q
    · exact d x q (List.mem_append_left _ hx)
    · exact d2 x hx q
  · refine ⟨bs ++ (as' ++ c2), ?_, fun x hx => ?_⟩
    · rw [sv, st]
      refine RpTs.join (rb.frame s fun x hx => k x (List.mem_append_left _ hx)) (.cons rn (rd.frame s fun x hx => k x (List.mem_append_right _ hx)) fun x hx hy => dn x hx (List.mem_append_right _ hy)) fun x hx hy => ?_
      rcases List.mem_append.mp hy with q | q
      · exact dn x q (List.mem_append_left _ hx)
      · exact d x hx (List.mem_append_right _ q)
    · rcases List.mem_append.mp hx with q | q
      · exact .inl (List.mem_append_left _ q)
      · rcases List.mem_append.mp q with q | q
        · exact .inr q
        · exact .inl (List.mem_append_right _ q)
  · have ev : vs.eraseIdx j = vs.take j ++ vs.drop (j + 1) := List.eraseIdx_eq_take_drop_succ ..
    have et : ts.eraseIdx j = ts.take j ++ ts.drop (j + 1) := List.eraseIdx_eq_take_drop_succ ..
    rw [ev, et]
    exact RpTs.join rb rd fun x hx hy => d x hx (List.mem_append_right _ hy)
theorem RpT.own_inv {v : V} {ts : List T} {as : List Addr} (r : RpT K H0 H v (.own ts) as) : ∃ a us bs, v = .ref a ∧ H a = some (.lst us) ∧ RpTs K H0 H us ts bs ∧ a ∉ bs ∧ as = a :: bs := by
  cases r with
  | own h r n => exact ⟨_, _, _, rfl, h, r, n, rfl⟩
theorem RpT.fz_inv {v : V} {d : D} {as : List Addr} (r : RpT K H0 H v (.fz d) as) : Rp K H0 v d ∧ as = [] := by
  cases r with
  | fz h => exact ⟨h, rfl⟩
end

/-! ### the state's world: what is fixed, the whole, what may change -/
structure Wd where
  h0 : Hp
  h : Hp
  w : Addr → Prop
structure Ge (a b : Wd) : Prop where
  f : Same a.h0 b.h0
  k : ∀ x o, a.h x = some o → ¬ a.w x → b.h x = some o
  w : ∀ x, b.w x → a.w x ∨ a.h x = none
  n : ∀ x, b.h0 x ≠ none → a.h0 x ≠ none ∨ a.w x ∨ a.h x = none
theorem Ge.refl (a : Wd) : Ge a a := ⟨.refl _, fun _ _ h _ => h, fun _ h => .inl h, fun _ h => .inl h⟩
theorem Ge.gone {a b : Wd} (p : Ge a b) {x : Addr} (h : b.h x = none) : a.w x ∨ a.h x = none := by
  cases e : a.h x with
  | none => exact .inr rfl
  | some o =>
    by_cases q : a.w x
    · exact .inl q
    · rw [p.k x o e q] at h
      cases h
theorem Ge.trans {a b c : Wd} (p : Ge a b) (q : Ge b c) : Ge a c where
  f := p.f.trans q.f
  k := fun x o h n => q.k x o (p.k x o h n) fun z => (p.w x z).elim n fun e => by rw [h] at e; cases e
  w := fun x h => (q.w x h).elim (p.w x) p.gone
  n := fun x h => (q.n x h).elim (p.n x) fun z => .inr (z.elim (p.w x) p.gone)

/-- slots and what is held on the way: F, as their footprints -/
structure ERF (K : PySem.W.Frag) (wd : Wd) (σ : L2.St) (env : TEnv) (vs : List V) (ts : List T) (F : Nat → List Addr) (as : List Addr) : Prop where
  at_ : ∀ i u, sl env i = some u → ∃ v, σ[i]? = some (some v) ∧ RpT K wd.h0 wd.h v u.t (F i)
  no : ∀ i, sl env i = none → F i = []
  dis : ∀ i j, i ≠ j → ∀ x ∈ F i, x ∉ F j
  mine : ∀ i, ∀ x ∈ F i, wd.w x ∧ wd.h0 x = none
  tmp : RpTs K wd.h0 wd.h vs ts as
  dtmp : ∀ i, ∀ x ∈ F i, x ∉ as
  mtmp : ∀ x ∈ as, wd.w x ∧ wd.h0 x = none
structure ER (K : PySem.W.Frag) (wd : Wd) (pn : Nat → Option V) (σ : L2.St) (env : TEnv) (vs : List V) (ts : List T) : Prop where
  len : σ.length = env.length
  sub : Same wd.h0 wd.h
  own : ∃ (F : Nat → List Addr) (as : List Addr), ERF K wd σ env vs ts F as
  pin : ∀ i t, sl env i = some (.pin t) → ∃ v, pn i = some v ∧ σ[i]? = some (some v)
section
variable {K : PySem.W.Frag} {wd : Wd} {pn : Nat → Option V} {σ : L2.St} {env : TEnv} {vs : List V} {ts : List T}
theorem sl_lt {i : Nat} {u : Sl} (h : sl env i = some u) : i < env.length := by
  unfold sl at h
  by_cases q : i < env.length
  · exact q
  · rw [List.getElem?_eq_none (by omega)] at h
    cases h
theorem sl_set (s : Nat) (o : Option Sl) (i : Nat) : sl (env.set s o) i = if i = s then (if s < env.length then o else none) else sl env i := by
  unfold sl
  by_cases q : i = s
  · subst q
    rw [if_pos rfl]
    by_cases h : i < env.length
    · rw [if_pos h, List.getElem?_set_self h]
      rfl
    · rw [if_neg h, List.getElem?_eq_none (by rw [List.length_set]; omega)]
      rfl
  · rw [if_neg q, List.getElem?_set_ne (fun e => q e.symm)]
theorem sl_set_ne {s i : Nat} {o : Option Sl} (h : i ≠ s) : sl (env.set s o) i = sl env i := by rw [sl_set, if_neg h]
theorem sl_set_eq {s : Nat} {o : Option Sl} (h : s < env.length) : sl (env.set s o) s = o := by rw [sl_set, if_pos rfl, if_pos h]
theorem keep_of {H H' : Hp} (a : Same H H') {x : Addr} (hx : H x ≠ none) : H' x = H x := by
  cases q : H x with
  | none => exact absurd q hx
  | some o => exact a x o q
theorem ERF.there {F : Nat → List Addr} {as : List Addr} (e : ERF K wd σ env vs ts F as) {i : Nat} {x : Addr} (hx : x ∈ F i) : wd.h x ≠ none := by
  cases q : sl env i with
  | none =>
    rw [e.no i q] at hx
    cases hx
  | some u =>
    obtain ⟨v, _, r⟩ := e.at_ i u q
    exact r.there x hx
/-- the heaps grow, nothing that is owned changes -/
theorem ER.grow {H0' H' : Hp} (e : ER K wd pn σ env vs ts) (g : Gr wd.h0 wd.h H0' H') : ER K ⟨H0', H', wd.w⟩ pn σ env vs ts ∧ Ge wd ⟨H0', H', wd.w⟩ := by
  obtain ⟨F, as, f⟩ := e.own
  refine ⟨⟨e.len, g.c, ⟨F, as, fun i u hu => ?_, f.no, f.dis, fun i x hx => ⟨(f.mine i x hx).1, g.n x (f.mine i x hx).2 (f.there hx)⟩, f.tmp.frame g.b fun x hx => keep_of g.a (f.tmp.there x hx), f.dtmp, fun x hx => ⟨(f.mtmp x hx).1, g.n x (f.mtmp x hx).2 (f.tmp.there x hx)⟩⟩, e.pin⟩, ⟨g.b, fun x o h _ => g.a x o h, fun x h => .inl h, fun x h => ?_⟩⟩
  · obtain ⟨v, a, b⟩ := f.at_ i u hu
    exact ⟨v, a, b.frame g.b fun x hx => keep_of g.a (b.there x hx)⟩
  · cases q : wd.h0 x with
    | some o => exact .inl fun z => nomatch z
    | none =>
      cases q2 : wd.h x with
      | none => exact .inr (.inr rfl)
      | some o => exact absurd (g.n x q (by rw [q2]; exact fun z => nomatch z)) h
/-- the whole grows alone -/
theorem ER.growW {H' : Hp} (e : ER K wd pn σ env vs ts) (g : Same wd.h H') : ER K ⟨wd.h0, H', wd.w⟩ pn σ env vs ts ∧ Ge wd ⟨wd.h0, H', wd.w⟩ := e.grow ⟨g, .refl _, e.sub.trans g, fun _ h _ => h⟩
/-- a value held on the way -/
theorem ER.push {v : V} {d : D} (e : ER K wd pn σ env vs ts) (r : Rp K wd.h0 v d) : ER K wd pn σ env (v :: vs) (.fz d :: ts) := by
  obtain ⟨F, as, f⟩ := e.own
  exact ⟨e.len, e.sub, ⟨F, as, f.at_, f.no, f.dis, f.mine, (RpTs.cons (.fz r) f.tmp fun _ h => nomatch h), f.dtmp, f.mtmp⟩, e.pin⟩
theorem ER.drop {v : V} {t : T} (e : ER K wd pn σ env (v :: vs) (t :: ts)) : ER K wd pn σ env vs ts := by
  obtain ⟨F, as, f⟩ := e.own
  obtain ⟨bs, cs, r1, r2, d, ea⟩ := RpTs.split (us := [v]) (ts1 := [t]) rfl f.tmp
  subst ea
  exact ⟨e.len, e.sub, ⟨F, cs, f.at_, f.no, f.dis, f.mine, r2, fun i x hx h => f.dtmp i x hx (List.mem_append_right _ h), fun x hx => f.mtmp x (List.mem_append_right _ hx)⟩, e.pin⟩
theorem ER.dropN {us : List V} {ts1 : List T} (hl : us.length = ts1.length) (e : ER K wd pn σ env (us ++ vs) (ts1 ++ ts)) : ER K wd pn σ env vs ts := by
  obtain ⟨F, as, f⟩ := e.own
  obtain ⟨bs, cs, r1, r2, d, ea⟩ := RpTs.split hl f.tmp
  subst ea
  exact ⟨e.len, e.sub, ⟨F, cs, f.at_, f.no, f.dis, f.mine, r2, fun i x hx h => f.dtmp i x hx (List.mem_append_right _ h), fun x hx => f.mtmp x (List.mem_append_right _ hx)⟩, e.pin⟩
/-- the one that was held ahead stands ahead of those that came behind it -/
theorem ER.rot {v : V} {t : T} {us : List V} {ts1 : List T} (hl : us.length = ts1.length) (e : ER K wd pn σ env (us ++ (v :: vs)) (ts1 ++ (t :: ts))) : ER K wd pn σ env ((v :: us) ++ vs) ((t :: ts1) ++ ts) := by
  obtain ⟨F, as, f⟩ := e.own
  obtain ⟨bs, cs, r1, r2, d, ea⟩ := RpTs.split hl f.tmp
  subst ea
  obtain ⟨b2, c2, r3, r4, d2, ec⟩ := RpTs.split (us := [v]) (ts1 := [t]) rfl r2
  subst ec
  have j1 : RpTs K wd.h0 wd.h ([v] ++ us) ([t] ++ ts1) (b2 ++ bs) := r3.join r1 fun x hx hy => d x hy (List.mem_append_left _ hx)
  have j2 := j1.join r4 fun x hx hy => by
    rcases List.mem_append.mp hx with q | q
    · exact d2 x q hy
    · exact d x q (List.mem_append_right _ hy)
  have mem : ∀ x, x ∈ (b2 ++ bs) ++ c2 → x ∈ bs ++ (b2 ++ c2) := fun x hx => by
    simp only [List.mem_append] at hx ⊢
    rcases hx with (q | q) | q
    · exact .inr (.inl q)
    · exact .inl q
    · exact .inr (.inr q)
  exact ⟨e.len, e.sub, ⟨F, _, f.at_, f.no, f.dis, f.mine, j2, fun i x hx h => f.dtmp i x hx (mem x h), fun x hx => f.mtmp x (mem x hx)⟩, e.pin⟩
/-- what is held becomes an owned list -/
theorem ER.newList {us : List V} {ts1 : List T} {p : Addr} (hl : us.length = ts1.length) (e : ER K wd pn σ env (us ++ vs) (ts1 ++ ts)) (hp : wd.h p = none) :
    ER K ⟨wd.h0, upd wd.h p (.lst us), fun x => wd.w x ∨ x = p⟩ pn σ env (.ref p :: vs) (.own ts1 :: ts) ∧ Ge wd ⟨wd.h0, upd wd.h p (.lst us), fun x => wd.w x ∨ x = p⟩ := by
  obtain ⟨F, as, f⟩ := e.own
  obtain ⟨bs, cs, r1, r2, d, ea⟩ := RpTs.split hl f.tmp
  subst ea
  have sm : Same wd.h (upd wd.h p (.lst us)) := same_new hp
  have np : ∀ x, wd.h x ≠ none → x ≠ p := fun x h z => h (by rw [z]; exact hp)
  have p0 : wd.h0 p = none := e.sub.free hp
  refine ⟨⟨e.len, e.sub.trans sm, ⟨F, (p :: bs) ++ cs, fun i u hu => ?_, f.no, f.dis, fun i x hx => ⟨.inl (f.mine i x hx).1, (f.mine i x hx).2⟩, ?_, fun i x hx h => ?_, fun x hx => ?_⟩, e.pin⟩, ⟨.refl _, fun x o h _ => sm x o h, fun x h => h.elim .inl fun z => .inr (by rw [z]; exact hp), fun x h => .inl h⟩⟩
  · obtain ⟨v, a, b⟩ := f.at_ i u hu
    exact ⟨v, a, b.frame (.refl _) fun x hx => keep_of sm (b.there x hx)⟩
  · refine .cons (.own upd_same (r1.frame (.refl _) fun x hx => keep_of sm (r1.there x hx)) fun h => np p (r1.there p h) rfl) (r2.frame (.refl _) fun x hx => keep_of sm (r2.there x hx)) fun x hx hy => ?_
    rcases List.mem_cons.mp hx with q | q
    · exact np x (r2.there x hy) q
    · exact d x q hy
  · rcases List.mem_append.mp h with q | q
    · rcases List.mem_cons.mp q with q | q
      · exact np x (f.there hx) q
      · exact f.dtmp i x hx (List.mem_append_left _ q)
    · exact f.dtmp i x hx (List.mem_append_right _ q)
  · rcases List.mem_append.mp hx with q | q
    · rcases List.mem_cons.mp q with q | q
      · exact ⟨.inr q, by rw [q]; exact p0⟩
      · exact ⟨.inl (f.mtmp x (List.mem_append_left _ q)).1, (f.mtmp x (List.mem_append_left _ q)).2⟩
    · exact ⟨.inl (f.mtmp x (List.mem_append_right _ q)).1, (f.mtmp x (List.mem_append_right _ q)).2⟩
/-- slots forgotten -/
theorem ER.forget {σ' : L2.St} {env' : TEnv} (e : ER K wd pn σ env vs ts) (hl : σ'.length = env'.length) (h : ∀ i u, sl env' i = some u → sl env i = some u ∧ σ'[i]? = σ[i]?) : ER K wd pn σ' env' vs ts := by
  obtain ⟨F, as, f⟩ := e.own
  refine ⟨hl, e.sub, ⟨fun i => if sl env' i = none then [] else F i, as, fun i u hu => ?_, fun i hi => by rw [if_pos hi], fun i j hij x hx hy => ?_, fun i x hx => ?_, f.tmp, fun i x hx => ?_, f.mtmp⟩, fun i t ht => ?_⟩
  · obtain ⟨a, b⟩ := h i u hu
    rw [b, if_neg (by rw [hu]; exact fun z => nomatch z)]
    exact f.at_ i u a
  · split at hx
    · cases hx
    · split at hy
      · cases hy
      · exact f.dis i j hij x hx hy
  · split at hx
    · cases hx
    · exact f.mine i x hx
  · split at hx
    · cases hx
    · exact f.dtmp i x hx
  · obtain ⟨a, b⟩ := h i _ ht
    rw [b]
    exact e.pin i t a
/-- a slot's own value is taken out -/
theorem ER.take {s : Nat} {t : T} (e : ER K wd pn σ env vs ts) (hs : sl env s = some (.val t)) : ∃ v, σ[s]? = some (some v) ∧ ER K wd pn σ (env.set s none) (v :: vs) (t :: ts) := by
  obtain ⟨F, as, f⟩ := e.own
  obtain ⟨v, hv, r⟩ := f.at_ s _ hs
  refine ⟨v, hv, by rw [List.length_set]; exact e.len, e.sub, ⟨fun i => if i = s then [] else F i, F s ++ as, fun i u hu => ?_, fun i hi => ?_, fun i j hij x hx hy => ?_, fun i x hx => ?_, .cons r f.tmp (f.dtmp s), fun i x hx h => ?_, fun x hx => ?_⟩, fun i t' ht => ?_⟩
  · have hi : i ≠ s := fun z => by
      rw [z, sl_set_eq (sl_lt hs)] at hu
      cases hu
    rw [if_neg hi]
    rw [sl_set_ne hi] at hu
    exact f.at_ i u hu
  · by_cases q : i = s
    · rw [if_pos q]
    · rw [if_neg q]
      rw [sl_set_ne q] at hi
      exact f.no i hi
  · split at hx
    · cases hx
    · split at hy
      · cases hy
      · exact f.dis i j hij x hx hy
  · split at hx
    · cases hx
    · exact f.mine i x hx
  · split at hx
    · cases hx
    · rename_i q
      rcases List.mem_append.mp h with h | h
      · exact f.dis i s q x hx h
      · exact f.dtmp i x hx h
  · rcases List.mem_append.mp hx with q | q
    · exact f.mine s x q
    · exact f.mtmp x q
  · have hi : i ≠ s := fun z => by
      rw [z, sl_set_eq (sl_lt hs)] at ht
      cases ht
    rw [sl_set_ne hi] at ht
    exact e.pin i t' ht
/-- what is held is stored: u says how the slot is kept -/
theorem ER.store {s : Nat} {u : Sl} {v : V} {t : T} (e : ER K wd pn σ env (v :: vs) (t :: ts)) (hs : s < env.length) (hu : u.t = t) (hp : ∀ t', u = .pin t' → pn s = some v) : ER K wd pn (σ.set s (some v)) (env.set s (some u)) vs ts := by
  obtain ⟨F, as, f⟩ := e.own
  obtain ⟨bs, cs, r1, r2, d, ea⟩ := RpTs.split (us := [v]) (ts1 := [t]) rfl f.tmp
  subst ea
  have hsσ : s < σ.length := by
    rw [e.len]
    exact hs
  refine ⟨by rw [List.length_set, List.length_set]; exact e.len, e.sub, ⟨fun i => if i = s then bs else F i, cs, fun i u' hu' => ?_, fun i hi => ?_, fun i j hij x hx hy => ?_, fun i x hx => ?_, r2, fun i x hx h => ?_, fun x hx => f.mtmp x (List.mem_append_right _ hx)⟩, fun i t' ht => ?_⟩
  · by_cases q : i = s
    · subst q
      rw [sl_set_eq hs] at hu'
      cases hu'
      refine ⟨v, List.getElem?_set_self hsσ, ?_⟩
      rw [if_pos rfl, hu]
      exact r1.one_inv
    · rw [if_neg q, List.getElem?_set_ne (fun z => q z.symm)]
      rw [sl_set_ne q] at hu'
      exact f.at_ i u' hu'
  · by_cases q : i = s
    · subst q
      rw [sl_set_eq hs] at hi
      cases hi
    · rw [if_neg q]
      rw [sl_set_ne q] at hi
      exact f.no i hi
  · split at hx
    · rename_i q
      split at hy
      · rename_i q2
        exact hij (q.trans q2.symm)
      · exact f.dtmp j x hy (List.mem_append_left _ hx)
    · split at hy
      · exact f.dtmp i x hx (List.mem_append_left _ hy)
      · exact f.dis i j hij x hx hy
  · split at hx
    · exact f.mtmp x (List.mem_append_left _ hx)
    · exact f.mine i x hx
  · split at hx
    · exact d x hx h
    · exact f.dtmp i x hx (List.mem_append_right _ h)
  · by_cases q : i = s
    · subst q
      rw [sl_set_eq hs] at ht
      cases ht
      exact ⟨v, hp t' rfl, List.getElem?_set_self hsσ⟩
    · rw [sl_set_ne q] at ht
      obtain ⟨w, a, b⟩ := e.pin i t' ht
      exact ⟨w, a, by rw [List.getElem?_set_ne (fun z => q z.symm)]; exact b⟩
/-- what is held is fixed from now on -/
theorem ER.freeze {v : V} {t : T} (e : ER K wd pn σ env (v :: vs) (t :: ts)) : ∃ wd', wd'.h = wd.h ∧ wd'.w = wd.w ∧ Ge wd wd' ∧ Rp K wd'.h0 v t.data ∧ ER K wd' pn σ env vs ts := by
  obtain ⟨F, as, f⟩ := e.own
  obtain ⟨bs, cs, r1, r2, d, ea⟩ := RpTs.split (us := [v]) (ts1 := [t]) rfl f.tmp
  subst ea
  have r1' := r1.one_inv
  have hb : ∀ x ∈ bs, wd.h0 x = none := fun x hx => (f.mtmp x (List.mem_append_left _ hx)).2
  let h0' : Hp := fun x => if x ∈ bs then wd.h x else wd.h0 x
  have s0 : Same wd.h0 h0' := fun x o h => by
    show (if x ∈ bs then wd.h x else wd.h0 x) = some o
    split
    · rename_i q
      rw [hb x q] at h
      cases h
    · exact h
  have s1 : Same h0' wd.h := fun x o h => by
    have h : (if x ∈ bs then wd.h x else wd.h0 x) = some o := h
    split at h
    · exact h
    · exact e.sub x o h
  have out : ∀ x, x ∉ bs → h0' x = wd.h0 x := fun x h => if_neg h
  refine ⟨⟨h0', wd.h, wd.w⟩, rfl, rfl, ⟨s0, fun x o h _ => h, fun x h => .inl h, fun x h => ?_⟩, r1'.froze s0 fun x hx => if_pos hx, e.len, s1, ⟨F, cs, fun i u hu => ?_, f.no, f.dis, fun i x hx => ⟨(f.mine i x hx).1, ?_⟩, r2.frame s0 fun _ _ => rfl, fun i x hx h => f.dtmp i x hx (List.mem_append_right _ h), fun x hx => ⟨(f.mtmp x (List.mem_append_right _ hx)).1, ?_⟩⟩, e.pin⟩
  · by_cases q : x ∈ bs
    · exact .inr (.inl (f.mtmp x (List.mem_append_left _ q)).1)
    · exact .inl fun z => h (by rw [← z]; exact out x q)
  · obtain ⟨w, a, b⟩ := f.at_ i u hu
    exact ⟨w, a, b.frame s0 fun _ _ => rfl⟩
  · show h0' x = none
    rw [out x fun q => f.dtmp i x hx (List.mem_append_left _ q)]
    exact (f.mine i x hx).2
  · show h0' x = none
    rw [out x fun q => d x q hx]
    exact (f.mtmp x (List.mem_append_right _ hx)).2
end
end Eng
set_option maxRecDepth 100000
set_option maxHeartbeats 4000000
/-! EngL: owned lists change; calls that hand slots on. -/
namespace Eng
open PySem PySem.Spec PyProof.Rows L2
section
variable {K : PySem.W.Frag} {wd : Wd} {pn : Nat → Option V} {σ : L2.St} {env : TEnv} {vs : List V} {ts : List T}
theorem put_t (u : Sl) (t : T) : (u.put t).t = t := by cases u <;> rfl
theorem put_pin {u : Sl} {t t' : T} (h : u.put t = .pin t') : ∃ t0, u = .pin t0 := by
  cases u with
  | val _ => cases h
  | pin t0 => exact ⟨t0, rfl⟩
/-- a slot's owned value and what is held change together; only their own cells are written -/
theorem ER.modify {s : Nat} {u : Sl} (e : ER K wd pn σ env vs ts) (hs : sl env s = some u) {t' : T} {us' us vs2 : List V} {ts1' ts1 ts2 : List T} (ev : vs = us ++ vs2) (et : ts = ts1 ++ ts2) (hl : us.length = ts1.length)
    (k : ∀ v0 Fs bs, σ[s]? = some (some v0) → RpT K wd.h0 wd.h v0 u.t Fs → RpTs K wd.h0 wd.h us ts1 bs → (∀ x ∈ Fs, x ∉ bs) → ∃ (h' : Hp) (Fs' bs' : List Addr), RpT K wd.h0 h' v0 t' Fs' ∧ RpTs K wd.h0 h' us' ts1' bs' ∧
      (∀ x, x ∉ Fs → x ∉ bs → h' x = wd.h x) ∧ (∀ x ∈ Fs', x ∈ Fs ∨ x ∈ bs) ∧ (∀ x ∈ bs', x ∈ Fs ∨ x ∈ bs) ∧ (∀ x ∈ Fs', x ∉ bs') ∧
      ∀ wd', wd'.h = h' → Ge wd wd' → ER K wd' pn σ (env.set s (some (u.put t'))) (us' ++ vs2) (ts1' ++ ts2) → G) : G := by
  obtain ⟨F, as, f⟩ := e.own
  subst ev et
  obtain ⟨bs, cs, r1, r2, d, ea⟩ := RpTs.split hl f.tmp
  subst ea
  obtain ⟨v0, hv0, r0⟩ := f.at_ s u hs
  obtain ⟨h', Fs', bs', q1, q2, q3, q4, q5, q6, fin⟩ := k v0 (F s) bs hv0 r0 r1 fun x hx h => f.dtmp s x hx (List.mem_append_left _ h)
  have mineOf : ∀ x, x ∈ F s ∨ x ∈ bs → wd.w x ∧ wd.h0 x = none := fun x hx => hx.elim (f.mine s x) fun q => f.mtmp x (List.mem_append_left _ q)
  have sub' : Same wd.h0 h' := fun x o h => by
    have n1 : x ∉ F s := fun q => by
      rw [(f.mine s x q).2] at h
      cases h
    have n2 : x ∉ bs := fun q => by
      rw [(f.mtmp x (List.mem_append_left _ q)).2] at h
      cases h
    rw [q3 x n1 n2]
    exact e.sub x o h
  have other : ∀ i, i ≠ s → ∀ x ∈ F i, h' x = wd.h x := fun i hi x hx => q3 x (fun q => f.dis i s hi x hx q) fun q => f.dtmp i x hx (List.mem_append_left _ q)
  have otherT : ∀ x ∈ cs, h' x = wd.h x := fun x hx => q3 x (fun q => f.dtmp s x q (List.mem_append_right _ hx)) fun q => d x q hx
  refine fin ⟨wd.h0, h', wd.w⟩ rfl ⟨.refl _, fun x o h n => ?_, fun x h => .inl h, fun x h => .inl h⟩ ⟨by rw [List.length_set]; exact e.len, sub', ⟨fun i => if i = s then Fs' else F i, bs' ++ cs, fun i u' hu' => ?_, fun i hi => ?_, fun i j hij x hx hy => ?_, fun i x hx => ?_, q2.join (r2.frame (.refl _) otherT) fun x hx hy => ?_, fun i x hx h => ?_, fun x hx => ?_⟩, fun i t2 ht => ?_⟩
  · show h' x = some o
    rw [q3 x (fun q => n (f.mine s x q).1) fun q => n (f.mtmp x (List.mem_append_left _ q)).1]
    exact h
  · by_cases q : i = s
    · subst q
      rw [sl_set_eq (sl_lt hs)] at hu'
      cases hu'
      refine ⟨v0, hv0, ?_⟩
      rw [if_pos rfl, put_t]
      exact q1
    · rw [if_neg q]
      rw [sl_set_ne q] at hu'
      obtain ⟨w, a, b⟩ := f.at_ i u' hu'
      exact ⟨w, a, b.frame (.refl _) (other i q)⟩
  · by_cases q : i = s
    · subst q
      rw [sl_set_eq (sl_lt hs)] at hi
      cases hi
    · rw [if_neg q]
      rw [sl_set_ne q] at hi
      exact f.no i hi
  · split at hx
    · rename_i q
      split at hy
      · rename_i q2
        exact hij (q.trans q2.symm)
      · rename_i q2
        rcases q4 x hx with z | z
        · exact f.dis j s q2 x hy z
        · exact f.dtmp j x hy (List.mem_append_left _ z)
    · rename_i q
      split at hy
      · rcases q4 x hy with z | z
        · exact f.dis i s q x hx z
        · exact f.dtmp i x hx (List.mem_append_left _ z)
      · exact f.dis i j hij x hx hy
  · split at hx
    · exact mineOf x (q4 x hx)
    · exact f.mine i x hx
  · rcases q5 x hx with z | z
    · exact f.dtmp s x z (List.mem_append_right _ hy)
    · exact d x z hy
  · split at hx
    · rcases List.mem_append.mp h with h | h
      · exact q6 x hx h
      · rcases q4 x hx with z | z
        · exact f.dtmp s x z (List.mem_append_right _ h)
        · exact d x z h
    · rename_i q
      rcases List.mem_append.mp h with h | h
      · rcases q5 x h with z | z
        · exact f.dis i s q x hx z
        · exact f.dtmp i x hx (List.mem_append_left _ z)
      · exact f.dtmp i x hx (List.mem_append_right _ h)
  · rcases List.mem_append.mp hx with q | q
    · exact mineOf x (q5 x q)
    · exact f.mtmp x (List.mem_append_right _ q)
  · by_cases q : i = s
    · subst q
      rw [sl_set_eq (sl_lt hs)] at ht
      obtain ⟨t0, e0⟩ := put_pin (Option.some.inj ht)
      subst e0
      exact e.pin i t0 hs
    · rw [sl_set_ne q] at ht
      exact e.pin i t2 ht
theorem upd_out {H : Hp} {p x : Addr} {o : HO} (h : x ≠ p) : upd H p o x = H x := upd_ne h
/-- s.append(held) -/
theorem ER.app {s : Nat} {u : Sl} {ts0 : List T} {v : V} {t : T} (e : ER K wd pn σ env (v :: vs) (t :: ts)) (hs : sl env s = some u) (hu : u.t = .own ts0) :
    ∃ a us, σ[s]? = some (some (.ref a)) ∧ wd.h a = some (.lst us) ∧ us.length = ts0.length ∧ ∃ wd', wd'.h = upd wd.h a (.lst (us ++ [v])) ∧ Ge wd wd' ∧ ER K wd' pn σ (env.set s (some (u.put (.own (ts0 ++ [t]))))) vs ts := by
  refine e.modify hs (us := [v]) (ts1 := [t]) (us' := []) (ts1' := []) (t' := .own (ts0 ++ [t])) rfl rfl rfl fun v0 Fs bs hv0 r0 r1 dj => ?_
  rw [hu] at r0
  obtain ⟨a, us, b0, rfl, ha, rs, na, rfl⟩ := r0.own_inv
  have nab : ∀ x ∈ b0, x ≠ a := fun x hx z => na (by rw [← z]; exact hx)
  have nbb : ∀ x ∈ bs, x ≠ a := fun x hx z => dj a List.mem_cons_self (by rw [← z]; exact hx)
  refine ⟨upd wd.h a (.lst (us ++ [v])), a :: (b0 ++ bs), [], .own upd_same ((rs.frame (.refl _) fun x hx => upd_out (nab x hx)).join (r1.frame (.refl _) fun x hx => upd_out (nbb x hx)) fun x hx h => dj x (List.mem_cons_of_mem _ hx) h) ?_, .nil, ?_, ?_, (fun _ h => nomatch h), (fun _ _ h => nomatch h), fun wd' e1 e2 e3 => ⟨a, us, hv0, ha, rs.length, wd', e1, e2, e3⟩⟩
  · intro h
    rcases List.mem_append.mp h with q | q
    · exact na q
    · exact nbb a q rfl
  · intro x hx _
    exact upd_out fun z => hx (by rw [z]; exact List.mem_cons_self)
  · intro x hx
    rcases List.mem_cons.mp hx with q | q
    · exact .inl (by rw [q]; exact List.mem_cons_self)
    · rcases List.mem_append.mp q with q | q
      · exact .inl (List.mem_cons_of_mem _ q)
      · exact .inr q
/-- s[j] = held -/
theorem ER.setj {s j : Nat} {u : Sl} {ts0 : List T} {v : V} {t : T} (e : ER K wd pn σ env (v :: vs) (t :: ts)) (hs : sl env s = some u) (hu : u.t = .own ts0) (hj : j < ts0.length) :
    ∃ a us, σ[s]? = some (some (.ref a)) ∧ wd.h a = some (.lst us) ∧ us.length = ts0.length ∧ ∃ wd', wd'.h = upd wd.h a (.lst (us.set j v)) ∧ Ge wd wd' ∧ ER K wd' pn σ (env.set s (some (u.put (.own (ts0.set j t))))) vs ts := by
  refine e.modify hs (us := [v]) (ts1 := [t]) (us' := []) (ts1' := []) (t' := .own (ts0.set j t)) rfl rfl rfl fun v0 Fs bs hv0 r0 r1 dj => ?_
  rw [hu] at r0
  obtain ⟨a, us, b0, rfl, ha, rs, na, rfl⟩ := r0.own_inv
  have nbb : ∀ x ∈ bs, x ≠ a := fun x hx z => dj a List.mem_cons_self (by rw [← z]; exact hx)
  obtain ⟨vj, aj, rest, hvj, rj, m1, m2, dd, mk, _⟩ := rs.at_ (List.getElem?_eq_getElem hj)
  have nar : ∀ x ∈ rest, x ≠ a := fun x hx z => na (by rw [← z]; exact m2 x hx)
  obtain ⟨cs, rcs, hcs⟩ := mk wd.h0 (upd wd.h a (.lst (us.set j v))) v t bs (.refl _) (fun x hx => upd_out (nar x hx)) (r1.one_inv.frame (.refl _) fun x hx => upd_out (nbb x hx)) (fun x hx h => dj x (List.mem_cons_of_mem _ (m2 x h)) hx)
  refine ⟨upd wd.h a (.lst (us.set j v)), a :: cs, [], .own upd_same rcs ?_, .nil, ?_, ?_, (fun _ h => nomatch h), (fun _ _ h => nomatch h), fun wd' e1 e2 e3 => ⟨a, us, hv0, ha, rs.length, wd', e1, e2, e3⟩⟩
  · intro h
    rcases hcs a h with q | q
    · exact nar a q rfl
    · exact nbb a q rfl
  · intro x hx _
    exact upd_out fun z => hx (by rw [z]; exact List.mem_cons_self)
  · intro x hx
    rcases List.mem_cons.mp hx with q | q
    · exact .inl (by rw [q]; exact List.mem_cons_self)
    · rcases hcs x q with q | q
      · exact .inl (List.mem_cons_of_mem _ (m2 x q))
      · exact .inr q
/-- s.pop(j): the item is held -/
theorem ER.popj {s j : Nat} {u : Sl} {ts0 : List T} {t : T} (e : ER K wd pn σ env vs ts) (hs : sl env s = some u) (hu : u.t = .own ts0) (hj : ts0[j]? = some t) :
    ∃ a us v, σ[s]? = some (some (.ref a)) ∧ wd.h a = some (.lst us) ∧ us.length = ts0.length ∧ us[j]? = some v ∧ ∃ wd', wd'.h = upd wd.h a (.lst (us.eraseIdx j)) ∧ Ge wd wd' ∧ ER K wd' pn σ (env.set s (some (u.put (.own (ts0.eraseIdx j))))) (v :: vs) (t :: ts) := by
  obtain ⟨F0, as0, f0⟩ := e.own
  obtain ⟨w0, hw0, rw0⟩ := f0.at_ s u hs
  rw [hu] at rw0
  obtain ⟨a0, us0, b00, rfl, ha0, rs0, na0, _⟩ := rw0.own_inv
  obtain ⟨v0', _, _, hv0', _⟩ := rs0.at_ hj
  refine e.modify hs (us := []) (ts1 := []) (us' := [v0']) (ts1' := [t]) (t' := .own (ts0.eraseIdx j)) rfl rfl rfl fun v0 Fs bs hv0 r0 r1 dj => ?_
  rw [hu] at r0
  obtain ⟨a, us, b0, rfl, ha, rs, na, rfl⟩ := r0.own_inv
  have ea : a = a0 := by
    rw [hv0] at hw0
    cases hw0
    rfl
  subst ea
  have eu : us = us0 := by
    rw [ha] at ha0
    cases ha0
    rfl
  subst eu
  obtain ⟨vj, aj, rest, hvj, rj, m1, m2, dd, mk, er⟩ := rs.at_ hj
  have ev : v0' = vj := by
    rw [hvj] at hv0'
    exact (Option.some.inj hv0').symm
  subst ev
  have nar : ∀ x ∈ rest, x ≠ a := fun x hx z => na (by rw [← z]; exact m2 x hx)
  have naj : ∀ x ∈ aj, x ≠ a := fun x hx z => na (by rw [← z]; exact m1 x hx)
  refine ⟨upd wd.h a (.lst (us.eraseIdx j)), a :: rest, aj, .own upd_same (er.frame (.refl _) fun x hx => upd_out (nar x hx)) (fun h => nar a h rfl), RpTs.one (rj.frame (.refl _) fun x hx => upd_out (naj x hx)), ?_, ?_, ?_, ?_, fun wd' e1 e2 e3 => ⟨a, us, v0', hv0, ha, rs.length, hvj, wd', e1, e2, e3⟩⟩
  · intro x hx _
    exact upd_out fun z => hx (by rw [z]; exact List.mem_cons_self)
  · intro x hx
    rcases List.mem_cons.mp hx with q | q
    · exact .inl (by rw [q]; exact List.mem_cons_self)
    · exact .inl (List.mem_cons_of_mem _ (m2 x q))
  · intro x hx
    exact .inl (List.mem_cons_of_mem _ (m1 x hx))
  · intro x hx h
    rcases List.mem_cons.mp hx with q | q
    · exact naj x h q
    · exact dd x h q
theorem set_self {α : Type} {xs : List α} {j : Nat} {x : α} (h : xs[j]? = some x) : xs.set j x = xs := by
  obtain ⟨hj, e⟩ := List.getElem?_eq_some_iff.mp h
  rw [← e]
  exact List.set_getElem_self hj
/-- s[j].append(held) -/
theorem ER.appj {s j : Nat} {u : Sl} {ts0 us0 : List T} {v : V} {t : T} (e : ER K wd pn σ env (v :: vs) (t :: ts)) (hs : sl env s = some u) (hu : u.t = .own ts0) (hj : ts0[j]? = some (.own us0)) :
    ∃ a b us ws, σ[s]? = some (some (.ref a)) ∧ wd.h a = some (.lst us) ∧ us.length = ts0.length ∧ us[j]? = some (.ref b) ∧ wd.h b = some (.lst ws) ∧ ws.length = us0.length ∧ ∃ wd', wd'.h = upd wd.h b (.lst (ws ++ [v])) ∧ Ge wd wd' ∧
      ER K wd' pn σ (env.set s (some (u.put (.own (ts0.set j (.own (us0 ++ [t]))))))) vs ts := by
  refine e.modify hs (us := [v]) (ts1 := [t]) (us' := []) (ts1' := []) (t' := .own (ts0.set j (.own (us0 ++ [t])))) rfl rfl rfl fun v0 Fs bs hv0 r0 r1 dj => ?_
  rw [hu] at r0
  obtain ⟨a, us, b0, rfl, ha, rs, na, rfl⟩ := r0.own_inv
  obtain ⟨vj, aj, rest, hvj, rj, m1, m2, dd, mk, _⟩ := rs.at_ hj
  obtain ⟨b, ws, bj, rfl, hb, rb, nb, rfl⟩ := rj.own_inv
  have nba : b ≠ a := fun z => na (by rw [← z]; exact m1 b List.mem_cons_self)
  have nrb : ∀ x ∈ rest, x ≠ b := fun x hx z => dd b List.mem_cons_self (by rw [← z]; exact hx)
  have nbj : ∀ x ∈ bj, x ≠ b := fun x hx z => nb (by rw [← z]; exact hx)
  have nbs : ∀ x ∈ bs, x ≠ b := fun x hx z => dj b (List.mem_cons_of_mem _ (m1 b List.mem_cons_self)) (by rw [← z]; exact hx)
  have inn : RpT K wd.h0 (upd wd.h b (.lst (ws ++ [v]))) (.ref b) (.own (us0 ++ [t])) (b :: (bj ++ bs)) :=
    .own upd_same ((rb.frame (.refl _) fun x hx => upd_out (nbj x hx)).join (r1.frame (.refl _) fun x hx => upd_out (nbs x hx)) fun x hx h => dj x (List.mem_cons_of_mem _ (m1 x (List.mem_cons_of_mem _ hx))) h) fun h => (List.mem_append.mp h).elim (fun q => nbj b q rfl) fun q => nbs b q rfl
  obtain ⟨cs, rcs, hcs⟩ := mk wd.h0 _ (.ref b) _ _ (.refl _) (fun x hx => upd_out (nrb x hx)) inn (fun x hx h => by
    rcases List.mem_cons.mp hx with q | q
    · exact nrb x h q
    · rcases List.mem_append.mp q with q | q
      · exact dd x (List.mem_cons_of_mem _ q) h
      · exact dj x (List.mem_cons_of_mem _ (m2 x h)) q)
  rw [set_self hvj] at rcs
  have mem : ∀ x ∈ cs, x ∈ b0 ∨ x ∈ bs := fun x hx => by
    rcases hcs x hx with q | q
    · exact .inl (m2 x q)
    · rcases List.mem_cons.mp q with q | q
      · exact .inl (by rw [q]; exact m1 b List.mem_cons_self)
      · rcases List.mem_append.mp q with q | q
        · exact .inl (m1 x (List.mem_cons_of_mem _ q))
        · exact .inr q
  refine ⟨upd wd.h b (.lst (ws ++ [v])), a :: cs, [], .own (by rw [upd_ne (fun z => nba z.symm)]; exact ha) rcs ?_, .nil, ?_, ?_, (fun _ h => nomatch h), (fun _ _ h => nomatch h), fun wd' e1 e2 e3 => ⟨a, b, us, ws, hv0, ha, rs.length, hvj, hb, rb.length, wd', e1, e2, e3⟩⟩
  · intro h
    rcases mem a h with q | q
    · exact na q
    · exact dj a List.mem_cons_self q
  · intro x hx _
    exact upd_out fun z => hx (by rw [z]; exact List.mem_cons_of_mem _ (m1 b List.mem_cons_self))
  · intro x hx
    rcases List.mem_cons.mp hx with q | q
    · exact .inl (by rw [q]; exact List.mem_cons_self)
    · exact (mem x q).imp (List.mem_cons_of_mem _) id
/-- s[i][j] = held -/
theorem ER.setij {s i j : Nat} {u : Sl} {ts0 us0 : List T} {v : V} {t : T} (e : ER K wd pn σ env (v :: vs) (t :: ts)) (hs : sl env s = some u) (hu : u.t = .own ts0) (hi : ts0[i]? = some (.own us0)) (hj : j < us0.length) :
    ∃ a b us ws, σ[s]? = some (some (.ref a)) ∧ wd.h a = some (.lst us) ∧ us.length = ts0.length ∧ us[i]? = some (.ref b) ∧ wd.h b = some (.lst ws) ∧ ws.length = us0.length ∧ ∃ wd', wd'.h = upd wd.h b (.lst (ws.set j v)) ∧ Ge wd wd' ∧
      ER K wd' pn σ (env.set s (some (u.put (.own (ts0.set i (.own (us0.set j t))))))) vs ts := by
  refine e.modify hs (us := [v]) (ts1 := [t]) (us' := []) (ts1' := []) (t' := .own (ts0.set i (.own (us0.set j t)))) rfl rfl rfl fun v0 Fs bs hv0 r0 r1 dj => ?_
  rw [hu] at r0
  obtain ⟨a, us, b0, rfl, ha, rs, na, rfl⟩ := r0.own_inv
  obtain ⟨vj, aj, rest, hvj, rj, m1, m2, dd, mk, _⟩ := rs.at_ hi
  obtain ⟨b, ws, bj, rfl, hb, rb, nb, rfl⟩ := rj.own_inv
  obtain ⟨vk, ak, rest2, hvk, rk, m3, m4, dd2, mk2, _⟩ := rb.at_ (List.getElem?_eq_getElem hj)
  have nba : b ≠ a := fun z => na (by rw [← z]; exact m1 b List.mem_cons_self)
  have nrb : ∀ x ∈ rest, x ≠ b := fun x hx z => dd b List.mem_cons_self (by rw [← z]; exact hx)
  have nbj : ∀ x ∈ bj, x ≠ b := fun x hx z => nb (by rw [← z]; exact hx)
  have nbs : ∀ x ∈ bs, x ≠ b := fun x hx z => dj b (List.mem_cons_of_mem _ (m1 b List.mem_cons_self)) (by rw [← z]; exact hx)
  obtain ⟨ds, rds, hds⟩ := mk2 wd.h0 (upd wd.h b (.lst (ws.set j v))) v t bs (.refl _) (fun x hx => upd_out (nbj x (m4 x hx))) (r1.one_inv.frame (.refl _) fun x hx => upd_out (nbs x hx)) (fun x hx h => dj x (List.mem_cons_of_mem _ (m1 x (List.mem_cons_of_mem _ (m4 x h)))) hx)
  have inn : RpT K wd.h0 (upd wd.h b (.lst (ws.set j v))) (.ref b) (.own (us0.set j t)) (b :: ds) := .own upd_same rds fun h => (hds b h).elim (fun q => nbj b (m4 b q) rfl) fun q => nbs b q rfl
  obtain ⟨cs, rcs, hcs⟩ := mk wd.h0 _ (.ref b) _ _ (.refl _) (fun x hx => upd_out (nrb x hx)) inn (fun x hx h => by
    rcases List.mem_cons.mp hx with q | q
    · exact nrb x h q
    · rcases hds x q with q | q
      · exact dd x (List.mem_cons_of_mem _ (m4 x q)) h
      · exact dj x (List.mem_cons_of_mem _ (m2 x h)) q)
  rw [set_self hvj] at rcs
  have mem : ∀ x ∈ cs, x ∈ b0 ∨ x ∈ bs := fun x hx => by
    rcases hcs x hx with q | q
    · exact .inl (m2 x q)
    · rcases List.mem_cons.mp q with q | q
      · exact .inl (by rw [q]; exact m1 b List.mem_cons_self)
      · rcases hds x q with q | q
        · exact .inl (m1 x (List.mem_cons_of_mem _ (m4 x q)))
        · exact .inr q
  refine ⟨upd wd.h b (.lst (ws.set j v)), a :: cs, [], .own (by rw [upd_ne (fun z => nba z.symm)]; exact ha) rcs ?_, .nil, ?_, ?_, (fun _ h => nomatch h), (fun _ _ h => nomatch h), fun wd' e1 e2 e3 => ⟨a, b, us, ws, hv0, ha, rs.length, hvj, hb, rb.length, wd', e1, e2, e3⟩⟩
  · intro h
    rcases mem a h with q | q
    · exact na q
    · exact dj a List.mem_cons_self q
  · intro x hx _
    exact upd_out fun z => hx (by rw [z]; exact List.mem_cons_of_mem _ (m1 b List.mem_cons_self))
  · intro x hx
    rcases List.mem_cons.mp hx with q | q
    · exact .inl (by rw [q]; exact List.mem_cons_self)
    · exact (mem x q).imp (List.mem_cons_of_mem _) id
end
end Eng
set_option maxRecDepth 100000
set_option maxHeartbeats 4000000
/-! EngM: calls with slots that are handed on. -/
namespace Eng
open PySem PySem.Spec PyProof.Rows L2
def Ar.t : Ar → T
  | .val d => .fz d
  | .io t => t
def ioV : List V → List Ar → List V
  | _ :: vs, .val _ :: as => ioV vs as
  | v :: vs, .io _ :: as => v :: ioV vs as
  | _, _ => []
/-- f hands back t, and its handed-on lists as ios, wherever its arguments stand -/
structure HandsT (X : Cx) (f : Str) (ars : List Ar) (t : T) (ios : List T) (ks : Option (List Str × List Nat)) : Prop where
  ex : ∃ (fa : Addr) (fd : FuncData) (ps : List Str) (sp : Sp) (k : Nat), X.mg f = some (.ref fa) ∧ PySem.W.keepIn X.K (.ref fa) = true ∧ Binds X.K fd ps [] ∧
    FnOk X.prog X.w X.K X.mg X.base CX0 k fa fd ps sp ∧ Room k X.A ∧ (f == ("__debug__" : Str)) = false ∧
    (∀ l, ks = some l → KBinds X.K fd ps l.1 (permK l.1.length l.2) (permK l.1.length l.2)) ∧
    ∀ (vs : List V) (H0 H : Hp) (as : List Addr) (Q : VK), Same H0 H → RpTs X.K H0 H vs (ars.map Ar.t) as → (∀ x ∈ as, H0 x = none) →
      (∀ (wd : Wd) (v : V) (bs cs : List Addr), Ge ⟨H0, H, fun x => x ∈ as⟩ wd → Same wd.h0 wd.h → RpT X.K wd.h0 wd.h v t bs → RpTs X.K wd.h0 wd.h (ioV vs ars) ios cs → (∀ x ∈ bs, x ∉ cs) → (∀ x, x ∈ bs ∨ x ∈ cs → wd.w x ∧ wd.h0 x = none) → Q v wd.h) → sp vs H Q E0
structure PrgT where
  free : List Str
  cons : List (Str × Int)
  kws : List (Str × List Str × List Nat)
  N : List Str
  ct : CallT
  fuel : Nat
abbrev PrgT.p (P : PrgT) : Prg := ⟨P.free, P.cons, P.kws, P.N, cD P.ct⟩
structure XTk (P : PrgT) (X : Cx) (sc : Scope) : Prop where
  hN : X.N = P.N
  nd : P.N.Nodup
  sc : X.env.scope = sc
  calm : X.calm = true
  hu : X.A.units + 65 < cLine
  free : ∀ x ∈ P.free, X.mg x = none
  cons : ∀ x i, (x, i) ∈ P.cons → ∃ t, X.mg x = some (.int i t)
  call : ∀ f ars t ios, P.ct f ars = some (t, ios) → HandsT X f ars t ios none
  callk : ∀ f ks, (f, ks) ∈ P.kws → ∀ ars t ios, P.ct f ars = some (t, ios) → HandsT X f ars t ios (some ks)
  xe : X.xe = fun _ _ => False
theorem fz_rp {K : PySem.W.Frag} {H0 H : Hp} : ∀ {vs : List V} {ds : List D}, RpAll K H0 vs ds → RpTs K H0 H vs ((ds.map Ar.val).map Ar.t) []
  | _, _, .nil => .nil
  | _, _, .cons a r => by
    have := RpTs.cons (as := []) (.fz a) (fz_rp (H := H) r) fun _ h => nomatch h
    exact this
theorem ioV_val : ∀ (vs : List V) (ds : List D), ioV vs (ds.map Ar.val) = []
  | [], _ => by cases ‹List D› <;> rfl
  | _ :: _, [] => rfl
  | _ :: vs, _ :: ds => ioV_val vs ds
/-- a call of plain data -/
theorem HandsT.plain {X : Cx} {f : Str} {ds : List D} {t : T} {ks : Option (List Str × List Nat)} (h : HandsT X f (ds.map Ar.val) t [] ks) : Hands X f ds t.data ks := by
  obtain ⟨fa, fd, ps, sp, k, a1, a2, a3, a4, a5, a6, a7, a8⟩ := h.ex
  refine ⟨fa, fd, ps, sp, k, a1, a2, a3, a4, a5, a6, a7, fun vs H0 H Q hs r kd => ?_⟩
  refine a8 vs H0 H [] Q hs (fz_rp r) (fun _ h => nomatch h) fun wd v bs cs g s rt rc dj mine => ?_
  let h0' : Hp := fun x => if x ∈ bs then wd.h x else wd.h0 x
  have s0 : Same wd.h0 h0' := fun x o h => by
    show (if x ∈ bs then wd.h x else wd.h0 x) = some o
    split
    · rename_i q
      rw [(mine x (.inl q)).2] at h
      cases h
    · exact h
  refine kd v h0' wd.h ⟨fun x o h => g.k x o h (fun z => nomatch z), g.f.trans s0, fun x o h => ?_, fun x e1 e2 => ?_⟩ (rt.froze s0 fun x hx => if_pos hx)
  · have h : (if x ∈ bs then wd.h x else wd.h0 x) = some o := h
    split at h
    · exact h
    · exact s x o h
  · show (if x ∈ bs then wd.h x else wd.h0 x) = none
    split
    · rename_i q
      rcases g.w x (mine x (.inl q)).1 with z | z
      · cases z
      · exact absurd z e2
    · cases q : wd.h0 x with
      | none => rfl
      | some o =>
        rcases g.n x (by rw [q]; exact fun z => nomatch z) with z | z | z
        · exact absurd e1 z
        · cases z
        · exact absurd z e2
theorem XTk.x {P : PrgT} {X : Cx} {sc : Scope} (O : XTk P X sc) : XOk P.p X sc where
  hN := O.hN
  nd := O.nd
  sc := O.sc
  calm := O.calm
  hu := O.hu
  free := O.free
  cons := O.cons
  call := fun f ds d h => by
    have h : cD P.ct f ds = some d := h
    unfold cD at h
    split at h
    · rename_i t e
      cases h
      exact (O.call f _ _ _ e).plain
    · cases h
  callk := fun f ks m ds d h => by
    have h : cD P.ct f ds = some d := h
    unfold cD at h
    split at h
    · rename_i t e
      cases h
      exact (O.callk f ks m _ _ _ e).plain
    · cases h
theorem xtk_blk {P : PrgT} {X : Cx} {sc scope : Scope} (O : XTk P X sc) (s : Shared) (H : Hp) (C : Addr) (cl : List (Str × Addr)) (fp : List Addr) : XTk P (blkX X s H scope C cl fp) (relS scope sc) where
  hN := O.hN
  nd := O.nd
  sc := by
    rw [← O.sc]
    rfl
  calm := O.calm
  hu := O.hu
  free := O.free
  cons := O.cons
  call := fun f ars t ios h => ⟨(O.call f ars t ios h).ex⟩
  callk := fun f ks m ars t ios h => ⟨(O.callk f ks m ars t ios h).ex⟩
  xe := rfl

/-! ### what is handed on, and back -/
theorem RpTs.fam {K : PySem.W.Frag} {H0 H : Hp} : ∀ {vs : List V} {ts : List T} {as : List Addr}, RpTs K H0 H vs ts as → ∃ G : Nat → List Addr, (∀ k v t, vs[k]? = some v → ts[k]? = some t → RpT K H0 H v t (G k)) ∧ (∀ k, ∀ x ∈ G k, x ∈ as) ∧
    (∀ k l, k ≠ l → ∀ x ∈ G k, x ∉ G l)
  | _, _, _, .nil => ⟨fun _ => [], fun k v t h => by simp at h, fun _ _ h => (nomatch h), fun _ _ _ _ h => (nomatch h)⟩
  | _, _, _, .cons (as := a) (bs := b) ra rb d => by
    obtain ⟨G, g1, g2, g3⟩ := rb.fam
    refine ⟨fun k => match k with | 0 => a | k + 1 => G k, fun k v t h1 h2 => ?_, fun k x hx => ?_, fun k l hkl x hx hy => ?_⟩
    · cases k with
      | zero =>
        simp only [List.getElem?_cons_zero, Option.some.injEq] at h1 h2
        subst h1 h2
        exact ra
      | succ k =>
        simp only [List.getElem?_cons_succ] at h1 h2
        exact g1 k v t h1 h2
    · cases k with
      | zero => exact List.mem_append_left _ hx
      | succ k => exact List.mem_append_right _ (g2 k x hx)
    · cases k with
      | zero =>
        cases l with
        | zero => exact hkl rfl
        | succ l => exact d x hx (g2 l x hy)
      | succ k =>
        cases l with
        | zero => exact d x hy (g2 k x hx)
        | succ l => exact g3 k l (fun z => hkl (by rw [z])) x hx hy
/-- the values of what is handed on -/
inductive AhR (K : PySem.W.Frag) (H0 : Hp) (σ : L2.St) : List V → List Ah → Prop
  | nil : AhR K H0 σ [] []
  | val {v : V} {d : D} {vs : List V} {hs : List Ah} : Rp K H0 v d → AhR K H0 σ vs hs → AhR K H0 σ (v :: vs) (.val d :: hs)
  | io {v : V} {s : Nat} {vs : List V} {hs : List Ah} : σ[s]? = some (some v) → AhR K H0 σ vs hs → AhR K H0 σ (v :: vs) (.io s :: hs)
theorem AhR.mono {K : PySem.W.Frag} {H0 H0' : Hp} {σ : L2.St} (s : Same H0 H0') : ∀ {vs : List V} {hs : List Ah}, AhR K H0 σ vs hs → AhR K H0' σ vs hs
  | _, _, .nil => .nil
  | _, _, .val r t => .val (r.mono s) (AhR.mono s t)
  | _, _, .io h t => .io h (AhR.mono s t)
section
variable {K : PySem.W.Frag} {wd : Wd} {pn : Nat → Option V} {σ : L2.St} {env : TEnv} {vs : List V} {ts : List T}
theorem args_of {F : Nat → List Addr} {as : List Addr} (f : ERF K wd σ env vs ts F as) : ∀ {us : List V} {hs : List Ah} {ars : List Ar}, AhR K wd.h0 σ us hs → arOf env hs = some ars → (iosOf hs).Nodup →
    RpTs K wd.h0 wd.h us (ars.map Ar.t) ((iosOf hs).flatMap F) ∧ (∀ (k s : Nat), (iosOf hs)[k]? = some s → ∃ v, (ioV us ars)[k]? = some v ∧ σ[s]? = some (some v)) ∧ (∀ s ∈ iosOf hs, ∃ u, sl env s = some u)
  | _, _, ars, .nil, h, _ => by
    cases h
    exact ⟨.nil, fun k s h => by simp [iosOf] at h, fun s h => by simp [iosOf] at h⟩
  | _, _, ars, .val (v := v) (d := d) (hs := hs) r t, h, nd => by
    simp only [arOf, Option.map_eq_some_iff] at h
    obtain ⟨ars', e, rfl⟩ := h
    obtain ⟨a, b, c⟩ := args_of f t e nd
    refine ⟨?_, b, c⟩
    have := RpTs.cons (as := []) (.fz r) a fun _ h => nomatch h
    exact this
  | _, _, ars, .io (v := v) (s := s) (hs := hs) hv t, h, nd => by
    simp only [arOf] at h
    split at h
    · rename_i u hu
      simp only [Option.map_eq_some_iff] at h
      obtain ⟨ars', e, rfl⟩ := h
      obtain ⟨n1, n2⟩ := List.nodup_cons.mp nd
      obtain ⟨a, b, c⟩ := args_of f t e n2
      obtain ⟨w, hw, rw'⟩ := f.at_ s u hu
      have ew : w = v := by
        rw [hv] at hw
        cases hw
        rfl
      subst ew
      refine ⟨?_, fun k s' hk => ?_, fun s' hs' => ?_⟩
      · refine RpTs.cons rw' a fun x hx hy => ?_
        obtain ⟨j, hj, hxj⟩ := List.mem_flatMap.mp hy
        exact f.dis s j (fun z => n1 (by rw [z]; exact hj)) x hx hxj
      · cases k with
        | zero =>
          simp only [iosOf, List.getElem?_cons_zero, Option.some.injEq] at hk
          subst hk
          exact ⟨w, rfl, hv⟩
        | succ k =>
          simp only [iosOf, List.getElem?_cons_succ] at hk
          exact b k s' hk
      · rcases List.mem_cons.mp hs' with q | q
        · exact ⟨u, by rw [q]; exact hu⟩
        · exact c s' q
    · cases h
theorem back_spec : ∀ {ss : List Nat} {ts : List T} {env env' : TEnv}, back ss ts env = some env' → ss.Nodup → env'.length = env.length ∧ (∀ i, i ∉ ss → sl env' i = sl env i) ∧ (∀ (k s : Nat), ss[k]? = some s → ∃ u t, sl env s = some u ∧ ts[k]? = some t ∧ sl env' s = some (u.put t))
  | [], [], env, env', h, _ => by
    cases h
    exact ⟨rfl, fun _ _ => rfl, fun k s h => by simp at h⟩
  | [], _ :: _, _, _, h, _ => nomatch h
  | _ :: _, [], _, _, h, _ => nomatch h
  | s :: ss, t :: ts, env, env', h, nd => by
    simp only [back] at h
    split at h
    · rename_i u hu
      obtain ⟨n1, n2⟩ := List.nodup_cons.mp nd
      obtain ⟨a, b, c⟩ := back_spec h n2
      refine ⟨by rw [a, List.length_set], fun i hi => ?_, fun k s' hk => ?_⟩
      · rw [b i (fun z => hi (List.mem_cons_of_mem _ z)), sl_set_ne (fun z => hi (by rw [z]; exact List.mem_cons_self))]
      · cases k with
        | zero =>
          simp only [List.getElem?_cons_zero, Option.some.injEq] at hk
          subst hk
          refine ⟨u, t, hu, rfl, ?_⟩
          rw [b s n1, sl_set_eq (sl_lt hu)]
        | succ k =>
          simp only [List.getElem?_cons_succ] at hk
          obtain ⟨u', t', q1, q2, q3⟩ := c k s' hk
          have ne : s' ≠ s := fun z => n1 (by rw [← z]; exact List.mem_of_getElem? hk)
          rw [sl_set_ne ne] at q1
          exact ⟨u', t', q1, q2, q3⟩
    · cases h
/-- behind the call -/
theorem ER.called {us : List V} {hs : List Ah} {ars : List Ar} {ios : List T} {env' : TEnv} {t : T} {R : Prop} (e : ER K wd pn σ env vs ts) (ha : AhR K wd.h0 σ us hs) (har : arOf env hs = some ars) (nd : (iosOf hs).Nodup) (hb : back (iosOf hs) ios env = some env')
    (k : ∀ as, RpTs K wd.h0 wd.h us (ars.map Ar.t) as → (∀ x ∈ as, wd.h0 x = none) →
      (∀ (w2 : Wd) (v : V) (bs cs : List Addr), Ge ⟨wd.h0, wd.h, fun x => x ∈ as⟩ w2 → Same w2.h0 w2.h → RpT K w2.h0 w2.h v t bs → RpTs K w2.h0 w2.h (ioV us ars) ios cs → (∀ x ∈ bs, x ∉ cs) → (∀ x, x ∈ bs ∨ x ∈ cs → w2.w x ∧ w2.h0 x = none) →
        ∃ wd', wd'.h = w2.h ∧ Ge wd wd' ∧ ER K wd' pn σ env' (v :: vs) (t :: ts)) → R) : R := by
  obtain ⟨F, as, f⟩ := e.own
  obtain ⟨ra, rv, rs⟩ := args_of f ha har nd
  have mineA : ∀ x ∈ (iosOf hs).flatMap F, wd.w x ∧ wd.h0 x = none := fun x hx => by
    obtain ⟨j, _, hxj⟩ := List.mem_flatMap.mp hx
    exact f.mine j x hxj
  refine k _ ra (fun x hx => (mineA x hx).2) fun w2 v bs cs g s2 rt rc dj mine => ?_
  obtain ⟨bl, bo, bi⟩ := back_spec hb nd
  obtain ⟨G, g1, g2, g3⟩ := rc.fam
  -- cells of slots that are not handed on, and of what is held
  have keepF : ∀ x, wd.h x ≠ none → x ∉ (iosOf hs).flatMap F → w2.h x = wd.h x := fun x hx hn => by
    cases q : wd.h x with
    | none => exact absurd q hx
    | some o => exact g.k x o q hn
  have notIn : ∀ i, i ∉ iosOf hs → ∀ x ∈ F i, x ∉ (iosOf hs).flatMap F := fun i hi x hx h => by
    obtain ⟨j, hj, hxj⟩ := List.mem_flatMap.mp h
    exact f.dis i j (fun z => hi (by rw [z]; exact hj)) x hx hxj
  have notInT : ∀ x ∈ as, x ∉ (iosOf hs).flatMap F := fun x hx h => by
    obtain ⟨j, hj, hxj⟩ := List.mem_flatMap.mp h
    exact f.dtmp j x hxj hx
  have zero : ∀ x, wd.h0 x = none → wd.h x ≠ none → x ∉ (iosOf hs).flatMap F → w2.h0 x = none := fun x h1 h2 h3 => by
    cases q : w2.h0 x with
    | none => rfl
    | some o =>
      rcases g.n x (by rw [q]; exact fun z => nomatch z) with z | z | z
      · exact absurd h1 z
      · exact absurd z h3
      · exact absurd z h2
  -- what is new does not meet what stood
  have apart : ∀ x, x ∈ bs ∨ x ∈ cs → wd.h x ≠ none → x ∈ (iosOf hs).flatMap F := fun x hx hn => (g.w x (mine x hx).1).elim id fun z => absurd z hn
  have ixs : ∀ i, i ∈ iosOf hs → ∃ k, (iosOf hs)[k]? = some i ∧ (iosOf hs).idxOf i = k := fun i hi => ⟨(iosOf hs).idxOf i, by
    rw [List.getElem?_eq_getElem (List.idxOf_lt_length_of_mem hi), List.getElem_idxOf], rfl⟩
  refine ⟨⟨w2.h0, w2.h, fun x => wd.w x ∨ w2.w x⟩, rfl, ⟨g.f, fun x o h n => g.k x o h fun z => n (mineA x z).1, fun x h => h.elim .inl fun z => (g.w x z).imp (fun q => (mineA x q).1) id, fun x h => (g.n x h).imp id fun z => z.imp (fun q => (mineA x q).1) id⟩, by rw [bl]; exact e.len, s2,
    ⟨fun i => if i ∈ iosOf hs then G ((iosOf hs).idxOf i) else F i, bs ++ as, fun i u hu => ?_, fun i hi => ?_, fun i j hij x hx hy => ?_, fun i x hx => ?_, .cons rt (f.tmp.frame g.f fun x hx => keepF x (f.tmp.there x hx) (notInT x hx)) fun x hx hy => ?_, fun i x hx h => ?_, fun x hx => ?_⟩, fun i t' ht => ?_⟩
  · by_cases q : i ∈ iosOf hs
    · rw [if_pos q]
      obtain ⟨k, hk, ek⟩ := ixs i q
      obtain ⟨u0, t0, q1, q2, q3⟩ := bi k i hk
      rw [hu] at q3
      cases q3
      obtain ⟨w, hw, hσ⟩ := rv k i hk
      refine ⟨w, hσ, ?_⟩
      rw [put_t, ek]
      exact g1 k w t0 hw q2
    · rw [if_neg q]
      rw [bo i q] at hu
      obtain ⟨w, a, b⟩ := f.at_ i u hu
      exact ⟨w, a, b.frame g.f fun x hx => keepF x (b.there x hx) (notIn i q x hx)⟩
  · by_cases q : i ∈ iosOf hs
    · obtain ⟨k, hk, ek⟩ := ixs i q
      obtain ⟨u0, t0, q1, q2, q3⟩ := bi k i hk
      rw [hi] at q3
      cases q3
    · rw [if_neg q]
      rw [bo i q] at hi
      exact f.no i hi
  · split at hx
    · rename_i q
      split at hy
      · rename_i q2
        obtain ⟨k, hk, ek⟩ := ixs i q
        obtain ⟨l, hl, el⟩ := ixs j q2
        rw [ek] at hx
        rw [el] at hy
        exact g3 k l (fun z => hij (by rw [z, hl] at hk; exact (Option.some.inj hk).symm)) x hx hy
      · rename_i q2
        exact notIn j q2 x hy (apart x (.inr (g2 _ x hx)) (f.there hy))
    · rename_i q
      split at hy
      · exact notIn i q x hx (apart x (.inr (g2 _ x hy)) (f.there hx))
      · exact f.dis i j hij x hx hy
  · split at hx
    · have m := mine x (.inr (g2 _ x hx))
      exact ⟨.inr m.1, m.2⟩
    · rename_i q
      exact ⟨.inl (f.mine i x hx).1, zero x (f.mine i x hx).2 (f.there hx) (notIn i q x hx)⟩
  · exact notInT x hy (apart x (.inl hx) (f.tmp.there x hy))
  · split at hx
    · rcases List.mem_append.mp h with z | z
      · exact dj x z (g2 _ x hx)
      · exact notInT x z (apart x (.inr (g2 _ x hx)) (f.tmp.there x z))
    · rename_i q
      rcases List.mem_append.mp h with z | z
      · exact notIn i q x hx (apart x (.inl z) (f.there hx))
      · exact f.dtmp i x hx z
  · rcases List.mem_append.mp hx with z | z
    · have m := mine x (.inl z)
      exact ⟨.inr m.1, m.2⟩
    · exact ⟨.inl (f.mtmp x z).1, zero x (f.mtmp x z).2 (f.tmp.there x z) (notInT x z)⟩
  · by_cases q : i ∈ iosOf hs
    · obtain ⟨k, hk, ek⟩ := ixs i q
      obtain ⟨u0, t0, q1, q2, q3⟩ := bi k i hk
      rw [ht] at q3
      obtain ⟨t1, e1⟩ := put_pin (Option.some.inj q3).symm
      subst e1
      exact e.pin i t1 q1
    · rw [bo i q] at ht
      exact e.pin i t' ht
end
end Eng
set_option maxRecDepth 100000
set_option maxHeartbeats 4000000
/-! EngN: value expressions: the written text against them, their soundness. -/
namespace Eng
open PySem PySem.Spec PyProof.Rows L2

/-- forms whose value is a new list -/
def freshE : E → Bool
  | .blt .list (.cons _ .nil) => true
  | .slc _ _ _ => true
  | .lrng _ => true
  | _ => false
mutual
def chkX (P : PrgT) : TX → Scope → Expr → Bool
  | .sc e, sc, x => chkE P.p e sc x
  | .fr e, sc, x => chkE P.p e sc x
  | .mv s, sc, x => match x with | .Name n _ => decide (P.N[s]? = some n) && visB sc n | _ => false
  | .lst xs, sc, x => match x with | .List es _ => chkXs P xs sc es | _ => false
  | .cmp elt tg it, sc, x => match x with
    | .ListComp e [⟨t, i, [], 0⟩] sc' _ => noSetB i && blkC P.N sc sc' (ownOf P.N tg) && chkTg P.N (relS sc' sc) sc' tg t && chkIX P it sc t i && chkX P elt (relS sc' sc) e
    | _ => false
  | .listof e, sc, x => freshE e && chkE P.p e sc x
  | .rep d n, sc, x => match x with | .BinOp (.List [y] _) .Mult m _ => plainB y && chkE P.p d sc y && chkE P.p n sc m | _ => false
  | .call f as, sc, x => match x with | .Call (.Name n _) xs [] _ => decide (n = f) && glB sc n && chkAs P as sc xs | _ => false
  | .pop s i, sc, x => match x with | .Call (.Attribute (.Name n _) m p) [y] [] q => decide (P.N[s]? = some n) && visB sc n && decide (m = "pop") && decide (p.endLine = q.line) && plainB y && chkX P i sc y | _ => false
  | .bin o a b, sc, x => match x with | .BinOp l o' r _ => decide (o' = o) && chkX P a sc l && chkX P b sc r | _ => false
  | .idv s i, sc, x => match x with | .Subscript (.Name n _) j _ => decide (P.N[s]? = some n) && visB sc n && plainIxB j && chkX P i sc j | _ => false
  | .not a, sc, x => match x with | .UnaryOp .Not v _ => chkX P a sc v | _ => false
  | .rel o a b, sc, x => match x with | .Compare l [o'] [r] _ => decide (o' = o) && !behindInMarks o r && chkX P a sc l && chkX P b sc r | _ => false
def chkXs (P : PrgT) : TXs → Scope → List Expr → Bool
  | .nil, _, xs => match xs with | [] => true | _ => false
  | .cons x r, sc, xs => match xs with | y :: ys => plainB y && chkX P x sc y && chkXs P r sc ys | _ => false
def chkAs (P : PrgT) : AXs → Scope → List Expr → Bool
  | .nil, _, xs => match xs with | [] => true | _ => false
  | .val x r, sc, xs => match xs with | y :: ys => plainB y && chkX P x sc y && chkAs P r sc ys | _ => false
  | .io s r, sc, xs => match xs with | .Name n _ :: ys => decide (P.N[s]? = some n) && visB sc n && chkAs P r sc ys | _ => false
def chkIX (P : PrgT) : IX → Scope → Expr → Expr → Bool
  | .fz it, sc, t, x => chkIt P.p it sc t x
  | .rng a, sc, _, x => match x with | .Call (.Name n _) [v] [] _ => decide (n = "range") && glB sc n && P.free.contains n && plainB v && chkX P a sc v | _ => false
end
variable {P : PrgT}
def XOkT (P : PrgT) (x : TX) : Prop := ∀ {X : Cx} {sc : Scope} {e : Expr} {env env' : TEnv} {t : T} {σ : L2.St} {vs : List V} {ts : List T} {wd : Wd} {pn : Nat → Option V} {Q : VK}, XTk P X sc → chkX P x sc e = true → evX P.ct x env = some (t, env') → ER X.K wd pn σ env vs ts →
  (∀ v wd', Ge wd wd' → ER X.K wd' pn σ env' (v :: vs) (t :: ts) → Q v wd'.h) → SE X e σ wd.h Q
def XsOk (P : PrgT) (xs : TXs) : Prop := ∀ {X : Cx} {sc : Scope} {es : List Expr} {env env' : TEnv} {ts1 : List T} {σ : L2.St} {vs : List V} {ts : List T} {wd : Wd} {pn : Nat → Option V} {Q : List V → Hp → Prop}, XTk P X sc → chkXs P xs sc es = true → evXs P.ct xs env = some (ts1, env') → ER X.K wd pn σ env vs ts →
  (∀ us wd', us.length = ts1.length → Ge wd wd' → ER X.K wd' pn σ env' (us ++ vs) (ts1 ++ ts) → Q us wd'.h) → SA X es σ wd.h Q
def AsOk (P : PrgT) (as : AXs) : Prop := ∀ {X : Cx} {sc : Scope} {es : List Expr} {env env' : TEnv} {hs : List Ah} {σ : L2.St} {vs : List V} {ts : List T} {wd : Wd} {pn : Nat → Option V} {Q : List V → Hp → Prop}, XTk P X sc → chkAs P as sc es = true → evAs P.ct as env = some (hs, env') → ER X.K wd pn σ env vs ts →
  (∀ us wd', AhR X.K wd'.h0 σ us hs → Ge wd wd' → ER X.K wd' pn σ env' vs ts → Q us wd'.h) → SA X es σ wd.h Q
def IXOk (P : PrgT) (it : IX) : Prop := ∀ {X : Cx} {sc : Scope} {t x : Expr} {env env' : TEnv} {ds : List D} {σ : L2.St} {vs : List V} {ts : List T} {wd : Wd} {pn : Nat → Option V} {R : L2.It → Hp → Prop}, XTk P X sc → chkIX P it sc t x = true → itX P.ct it env = some (ds, env') → ER X.K wd pn σ env vs ts →
  (∀ J wd', Ge wd wd' → ER X.K wd' pn σ env' vs ts → Wk X.K J ds wd'.h0 → R J wd'.h) → SI X t x σ wd.h R

section
variable {K : PySem.W.Frag} {wd : Wd} {pn : Nat → Option V} {σ : L2.St} {env : TEnv} {vs : List V} {ts : List T}
theorem ER.dRep (e : ER K wd pn σ env vs ts) : DRep K σ wd.h (dEnv env) := by
  obtain ⟨F, as, f⟩ := e.own
  refine ⟨by unfold dEnv; rw [List.length_map]; exact e.len, fun i d h => ?_⟩
  unfold look dEnv at h
  rw [List.getElem?_map] at h
  cases q : env[i]? with
  | none =>
    rw [q] at h
    cases h
  | some o =>
    rw [q] at h
    cases o with
    | none => cases h
    | some u =>
      have hu : sl env i = some u := by
        unfold sl
        rw [q]
        rfl
      have ed : u.t.data = d := Option.some.inj h
      subst ed
      obtain ⟨v, a, b⟩ := f.at_ i u hu
      exact ⟨v, a, b.rp e.sub⟩
theorem ER.fRep (e : ER K wd pn σ env vs ts) : DRep K σ wd.h0 (fEnv env) := by
  obtain ⟨F, as, f⟩ := e.own
  refine ⟨by unfold fEnv; rw [List.length_map]; exact e.len, fun i d h => ?_⟩
  unfold look fEnv at h
  rw [List.getElem?_map] at h
  cases q : env[i]? with
  | none =>
    rw [q] at h
    cases h
  | some o =>
    rw [q] at h
    have key : ∀ u, o = some u → u.t = .fz d → ∃ v, σ[i]? = some (some v) ∧ Rp K wd.h0 v d := fun u eo eu => by
      have hu : sl env i = some u := by
        unfold sl
        rw [q, eo]
        rfl
      obtain ⟨v, a, b⟩ := f.at_ i u hu
      rw [eu] at b
      exact ⟨v, a, b.fz_inv.1⟩
    have h : fSl o = some d := h
    unfold fSl at h
    split at h
    · cases h
      exact key _ rfl rfl
    · cases h
      exact key _ rfl rfl
    · cases h
theorem ER.slot {s : Nat} {u : Sl} (e : ER K wd pn σ env vs ts) (h : sl env s = some u) : ∃ v, σ[s]? = some (some v) := by
  obtain ⟨F, as, f⟩ := e.own
  obtain ⟨v, a, _⟩ := f.at_ s u h
  exact ⟨v, a⟩
theorem scal_rp {H H' : Hp} {v : V} {d : D} (r : Rp K H v d) (h : scal d = true) : Rp K H' v d := by
  cases r <;> first
    | (constructor; done)
    | cases h
theorem ER.top {v : V} {d : D} (e : ER K wd pn σ env (v :: vs) (.fz d :: ts)) : Rp K wd.h0 v d := by
  obtain ⟨F, as, f⟩ := e.own
  obtain ⟨bs, cs, r1, _⟩ := RpTs.split (us := [v]) (ts1 := [.fz d]) rfl f.tmp
  exact r1.one_inv.fz_inv.1
/-- a scalar made on the way, behind a growth of the whole -/
theorem ER.made {H0' H' : Hp} {v : V} {d : D} (e : ER K wd pn σ env vs ts) (g : Gr wd.h0 wd.h H0' H') (r : Rp K H0' v d) : ER K ⟨H0', H', wd.w⟩ pn σ env (v :: vs) (.fz d :: ts) ∧ Ge wd ⟨H0', H', wd.w⟩ := by
  obtain ⟨a, b⟩ := e.grow g
  exact ⟨a.push r, b⟩
end

/-! ### construct by construct -/
theorem xo_sc {e : E} : XOkT P (.sc e) := by
  intro X sc x env env' t σ vs ts wd pn Q O hc he er k
  simp only [evX, Option.bind_eq_some_iff] at he
  obtain ⟨d, e1, e2⟩ := he
  split at e2
  · rename_i hsc
    cases e2
    refine (all_E P.p e).1 O.x hc e1 (.refl wd.h) er.dRep fun v H0' H' g r => ?_
    obtain ⟨a, b⟩ := er.growW g.a
    exact k v _ b (a.push (scal_rp r hsc))
  · cases e2
theorem xo_fr {e : E} : XOkT P (.fr e) := by
  intro X sc x env env' t σ vs ts wd pn Q O hc he er k
  simp only [evX, Option.map_eq_some_iff] at he
  obtain ⟨d, e1, e2⟩ := he
  cases e2
  refine (all_E P.p e).1 O.x hc e1 er.sub er.fRep fun v H0' H' g r => ?_
  obtain ⟨a, b⟩ := er.made g r
  exact k v _ b a
theorem name_se {s : Nat} {n : Str} {pos : Pos} {X : Cx} {sc : Scope} {σ : L2.St} {H : Hp} {v : V} {Q : VK} (O : XTk P X sc) (h1 : P.N[s]? = some n) (h2 : visB sc n = true) (hv : σ[s]? = some (some v)) (q : Q v H) : SE X (.Name n pos) σ H Q := by
  obtain ⟨a, b, c⟩ := vis_of O.sc h2
  exact se_of (pe_var (by rw [O.hN]; exact h1) a b c) ⟨v, hv, q⟩
theorem xo_mv {s : Nat} : XOkT P (.mv s) := by
  intro X sc x env env' t σ vs ts wd pn Q O hc he er k
  simp only [chkX] at hc
  split at hc
  · obtain ⟨h1, h2⟩ := Bool.and_eq_true_iff.mp hc
    simp only [evX] at he
    split at he
    · rename_i u hu
      cases he
      obtain ⟨v, hv, er'⟩ := er.take hu
      exact name_se O (of_decide_eq_true h1) h2 hv (k v wd (Ge.refl wd) er')
    · cases he
  · cases hc
theorem xs_nil : XsOk P .nil := by
  intro X sc es env env' ts1 σ vs ts wd pn Q O hc he er k
  simp only [chkXs] at hc
  split at hc
  · cases he
    exact sa_of pa_nil (k [] wd rfl (Ge.refl wd) er)
  · cases hc
theorem xs_cons {x xs} (ix : XOkT P x) (ih : XsOk P xs) : XsOk P (.cons x xs) := by
  intro X sc es env env' ts1 σ vs ts wd pn Q O hc he er k
  simp only [chkXs] at hc
  split at hc
  · obtain ⟨h1, h2, h3⟩ := and3 hc
    simp only [evXs, Option.bind_eq_some_iff, Option.map_eq_some_iff] at he
    obtain ⟨⟨t, env1⟩, e1, ⟨ts', env2⟩, e2, e3⟩ := he
    cases e3
    refine sa_of (pa_cons se_pe sa_pa (star_of h1 _ _)) (ix O h2 e1 er fun v wd' g er1 => ih O h3 e2 er1 fun us wd2 hl g2 er2 => ?_)
    exact k (v :: us) wd2 (by simp [hl]) (g.trans g2) (er2.rot hl)
  · cases hc
theorem xo_lst {xs} (ih : XsOk P xs) : XOkT P (.lst xs) := by
  intro X sc x env env' t σ vs ts wd pn Q O hc he er k
  simp only [chkX] at hc
  split at hc
  · simp only [evX, Option.bind_eq_some_iff] at he
    obtain ⟨⟨ts1, env1⟩, e1, e2⟩ := he
    split at e2
    · rename_i hz
      cases e2
      refine se_of (pe_lst sa_pa) (ih O hc e1 er fun us wd' hl g er1 => ⟨by rw [hl]; exact hz, fun p hp => ?_⟩)
      obtain ⟨a, b⟩ := er1.newList hl hp
      exact k _ _ (g.trans b) a
    · cases e2
  · cases hc
theorem rpts_fz {K : PySem.W.Frag} {H0 H : Hp} : ∀ {vs : List V} {ds : List D}, RpAll K H0 vs ds → RpTs K H0 H vs (fzs ds) []
  | _, _, .nil => .nil
  | _, _, .cons a r => by
    have := RpTs.cons (as := []) (.fz a) (rpts_fz (H := H) r) fun _ h => nomatch h
    exact this
theorem ER.pushAll {K : PySem.W.Frag} {wd : Wd} {pn : Nat → Option V} {σ : L2.St} {env : TEnv} {vs : List V} {ts : List T} {H : Hp} (e : ER K wd pn σ env vs ts) : ∀ {us : List V} {ds : List D}, RpAll K H us ds → ds.all scal = true → ER K wd pn σ env (us ++ vs) (fzs ds ++ ts)
  | _, _, .nil, _ => e
  | _, _, .cons a r, h => by
    obtain ⟨h1, h2⟩ := Bool.and_eq_true_iff.mp (show (scal _ && List.all _ scal) = true from h)
    exact (e.pushAll r h2).push (scal_rp a h1)
/-- a new list of scalars -/
theorem ER.newSc {K : PySem.W.Frag} {wd : Wd} {pn : Nat → Option V} {σ : L2.St} {env : TEnv} {vs : List V} {ts : List T} {us : List V} {ds : List D} {p : Addr} {H : Hp} (e : ER K wd pn σ env vs ts) (r : RpAll K H us ds) (h : ds.all scal = true) (hp : wd.h p = none) :
    ∃ wd', wd'.h = upd wd.h p (.lst us) ∧ Ge wd wd' ∧ ER K wd' pn σ env (.ref p :: vs) (.own (fzs ds) :: ts) := by
  have l : us.length = (fzs ds).length := by
    unfold fzs
    rw [List.length_map]
    exact r.length
  obtain ⟨a, b⟩ := (e.pushAll r h).newList l hp
  exact ⟨_, rfl, b, a⟩
/-- a fresh form's value is a new list -/
theorem fresh_ok {e : E} (hf : freshE e = true) {X : Cx} {sc : Scope} {x : Expr} {env : DEnv} {ds : List D} {σ : L2.St} {H : Hp} {Q : VK} (O : XOk P.p X sc) (hc : chkE P.p e sc x = true) (he : evV P.p.c e env = some (.list ds)) (hr : DRep X.K σ H env)
    (k : ∀ (p : Addr) (us : List V) (H1 : Hp), Same H H1 → H1 p = none → RpAll X.K H1 us ds → Q (.ref p) (upd H1 p (.lst us))) : SE X x σ H Q := by
  unfold freshE at hf
  split at hf
  · -- list(a)
    rename_i a
    unfold chkE at hc
    split at hc
    · rename_i n p as pos
      simp only [Bool.and_eq_true] at hc
      obtain ⟨⟨⟨⟨h1, h2⟩, h3⟩, h4⟩, h5⟩ := hc
      have en := of_decide_eq_true h1
      subst en
      obtain ⟨g, gd⟩ := gl_of O.sc h2
      have m := free_of O h3
      simp only [evV, evVs, Option.bind_eq_some_iff] at he
      obtain ⟨ds1, ⟨d, e1, ds2, e2, e3⟩, e4⟩ := he
      cases e2
      cases e3
      match as, h5 with
      | [y], h5 =>
        obtain ⟨q1, q2, q3⟩ := and3 (show (plainB y && chkE P.p a sc y && chkEs P.p .nil sc []) = true from h5)
        refine se_of (pe_callTy call_list_of g m boot_list (pa_cons se_pe pa_nil (star_of q1 _ _)) (by decide) gd (star_of q1 _ _) rfl) ((all_E P.p a).1 O q2 e1 (.refl H) hr fun v H0' H' gr r => ?_)
        have e4 : listV [d] = some (.list ds) := e4
        unfold listV at e4
        split at e4
        · rename_i xs hxs
          cases hxs
          cases e4
          obtain ⟨b, ys, rfl, hb, rb⟩ := r.list_inv
          exact ⟨b, ys, rfl, .inl (.of (gr.c _ _ hb)), fun p hp => k p ys H' gr.a hp (rb.mono gr.c)⟩
        · rename_i xs hxs
          cases hxs
          cases e4
          obtain ⟨b, ys, rfl, hb, rb⟩ := r.tup_inv
          exact ⟨b, ys, rfl, .inr (.of (gr.c _ _ hb)), fun p hp => k p ys H' gr.a hp (rb.mono gr.c)⟩
        · cases e4
      | [], h5 => cases h4
      | _ :: _ :: _, h5 =>
        obtain ⟨_, _, q3⟩ := and3 (show (plainB _ && chkE P.p a sc _ && chkEs P.p .nil sc (_ :: _)) = true from h5)
        cases q3
    · cases hc
  · -- a slice
    rename_i a lo hi
    unfold chkE at hc
    split at hc
    · obtain ⟨h1, h2, h3⟩ := and3 hc
      simp only [evV, Option.bind_eq_some_iff] at he
      obtain ⟨dx, e1, l, e2, h, e3, e4⟩ := he
      refine fun pins s I => ?_
      refine (pe_slice (tl := fun σ H Q => ∃ t, PO X _ t ∧ t σ H Q) (th := fun σ H Q => ∃ t, PO X _ t ∧ t σ H Q) sl_list se_pe ⟨fun pins s σ H Q I ⟨t, p, q⟩ => p.run pins s σ H Q I q⟩ ⟨fun pins s σ H Q I ⟨t, p, q⟩ => p.run pins s σ H Q I q⟩).run pins s σ H Q I ?_
      refine (all_E P.p a).1 O h1 e1 (.refl H) hr fun v H0' H' g r => ?_
      refine part_ok (all_E P.p lo).1 O h2 e2 g.c (hr.mono g.b) fun H1' H1 g1 => ?_
      refine part_ok (all_E P.p hi).1 O h3 e3 g1.c ((hr.mono g.b).mono g1.b) fun H2' H2 g2 => ?_
      have r2 := (r.mono g1.b).mono g2.b
      unfold slcV at e4
      split at e4
      · cases e4
        obtain ⟨b, ys, rfl, hb, rb⟩ := r2.list_inv
        exact ⟨b, ys, rfl, .of (g2.c _ _ hb), fun p hp => k p _ H2 ((g.a.trans g1.a).trans g2.a) hp ((rb.mono g2.c).cut l h)⟩
      · cases e4
        obtain ⟨b, ys, rfl, hb, rb⟩ := r2.frn_inv
        exact ⟨b, ys, rfl, g2.c.seq hb, fun p hp => k p _ H2 ((g.a.trans g1.a).trans g2.a) hp ((rb.mono g2.c).cut l h)⟩
      · cases e4
    · cases hc
  · -- list(range(n))
    rename_i a
    unfold chkE at hc
    split at hc
    · simp only [Bool.and_eq_true] at hc
      obtain ⟨⟨⟨⟨⟨⟨⟨h1, h2⟩, h3⟩, h4⟩, h5⟩, h6⟩, h7⟩, h8⟩ := hc
      have en := of_decide_eq_true h1
      have em := of_decide_eq_true h4
      subst en em
      obtain ⟨g, gd⟩ := gl_of O.sc h2
      obtain ⟨g2, gd2⟩ := gl_of O.sc h5
      simp only [evV, Option.bind_eq_some_iff] at he
      obtain ⟨dx, e1, e2⟩ := he
      split at e2
      · split at e2
        · rename_i hz
          simp only [Option.map_eq_some_iff] at e2
          obtain ⟨ds', e3, e4⟩ := e2
          cases e4
          obtain ⟨_, ed⟩ := rngD_inv e3
          refine se_of (pe_listRg O.calm g (free_of O h3) (prg_1 g2 (free_of O h6) se_pe (star_of h7 _ _))) ((all_E P.p a).1 O h8 e1 (.refl H) hr fun v H0' H' gr r => ?_)
          cases r
          refine ⟨_, rfl, RgOk.of_le (by omega) hz.2 (by omega) hz.1, fun q hq => k q _ H' gr.a hq ?_⟩
          rw [ed]
          unfold rgV
          have gen : ∀ ks : List Nat, RpAll X.K H' (ks.map fun i => V.int (0 + (i : Nat))) (ks.map fun (k : Nat) => PyData.int (0 + (k : Int))) := fun ks => by
            induction ks with
            | nil => exact .nil
            | cons k ks ih => exact .cons (.int _) ih
          exact gen _
        · cases e2
      · cases e2
    · cases hc
  · cases hf
theorem xo_listof {e : E} : XOkT P (.listof e) := by
  intro X sc x env env' t σ vs ts wd pn Q O hc he er k
  simp only [chkX] at hc
  obtain ⟨hf, hc⟩ := Bool.and_eq_true_iff.mp hc
  simp only [evX, Option.bind_eq_some_iff] at he
  obtain ⟨d, e1, e2⟩ := he
  split at e2
  · split at e2
    · rename_i ds hsc
      cases e2
      refine fresh_ok hf O.x hc e1 er.dRep fun p us H1 s1 hp r => ?_
      obtain ⟨a, b⟩ := er.growW s1
      obtain ⟨wd', q1, q2, q3⟩ := a.newSc r hsc (show (Wd.mk wd.h0 H1 wd.w).h p = none from hp)
      have := k (.ref p) wd' (b.trans q2) q3
      rw [q1] at this
      exact this
    · cases e2
  · cases e2
theorem xo_rep {d n : E} : XOkT P (.rep d n) := by
  intro X sc x env env' t σ vs ts wd pn Q O hc he er k
  simp only [chkX] at hc
  split at hc
  · obtain ⟨h1, h2, h3⟩ := and3 hc
    simp only [evX, Option.bind_eq_some_iff] at he
    obtain ⟨dd, e1, dm, e2, e3⟩ := he
    split at e3
    · rename_i kk
      split at e3
      · rename_i hz
        cases e3
        simp only [Bool.and_eq_true, decide_eq_true_eq] at hz
        obtain ⟨⟨z1, z2⟩, z3⟩ := hz
        refine se_of (pe_op op_rep (pe_lst (pa_cons se_pe pa_nil (star_of h1 _ _))) se_pe) ((all_E P.p d).1 O.x h2 e1 (.refl wd.h) er.dRep fun v H0' H' g r => ?_)
        refine ⟨by show 1 ≤ sizeLine; decide, fun l hl => ?_⟩
        have s1 : Same wd.h (upd H' l (.lst [v])) := g.a.trans (same_new hl)
        refine (all_E P.p n).1 O.x h3 e2 (.refl _) (er.dRep.mono s1) fun w H1' H1 g1 r1 => ?_
        cases r1
        have hl1 : H1 l = some (.lst [v]) := g1.a _ _ upd_same
        refine ⟨l, kk, [v], rfl, rfl, hl1, z3, Int.lt_of_lt_of_le z2 (by decide), ?_, fun p hp => ?_⟩
        · have : kk.toNat < 2 ^ 24 := by omega
          show 1 * kk.toNat ≤ sizeLine
          rw [sizeLine_eq]
          omega
        · obtain ⟨a, b⟩ := er.growW (s1.trans g1.a)
          have rr : RpAll X.K H1 (List.replicate kk.toNat [v]).flatten (List.replicate kk.toNat dd) := by
            have rv : Rp X.K H1 v dd := scal_rp r z1
            generalize kk.toNat = m
            induction m with
            | zero => exact .nil
            | succ m ih =>
              rw [List.replicate_succ, List.replicate_succ, List.flatten_cons]
              exact .cons rv ih
          have hall : (List.replicate kk.toNat dd).all scal = true := by
            rw [List.all_eq_true]
            intro y hy
            rw [List.eq_of_mem_replicate hy]
            exact z1
          obtain ⟨wd', q1, q2, q3⟩ := a.newSc rr hall (show (Wd.mk wd.h0 H1 wd.w).h p = none from hp)
          have e : fzs (List.replicate kk.toNat dd) = List.replicate kk.toNat (.fz dd) := by
            unfold fzs
            rw [List.map_replicate]
          rw [e] at q3
          have := k (.ref p) wd' (b.trans q2) q3
          rw [q1] at this
          exact this
      · cases e3
    · cases e3
  · cases hc

/-! ### calls -/
theorem as_nil : AsOk P .nil := by
  intro X sc es env env' hs σ vs ts wd pn Q O hc he er k
  simp only [chkAs] at hc
  split at hc
  · cases he
    exact sa_of pa_nil (k [] wd .nil (Ge.refl wd) er)
  · cases hc
theorem as_val {x as} (ix : XOkT P x) (ih : AsOk P as) : AsOk P (.val x as) := by
  intro X sc es env env' hs σ vs ts wd pn Q O hc he er k
  simp only [chkAs] at hc
  split at hc
  · obtain ⟨h1, h2, h3⟩ := and3 hc
    simp only [evAs, Option.bind_eq_some_iff, Option.map_eq_some_iff] at he
    obtain ⟨⟨t, env1⟩, e1, ⟨hs', env2⟩, e2, e3⟩ := he
    cases e3
    refine sa_of (pa_cons se_pe sa_pa (star_of h1 _ _)) (ix O h2 e1 er fun v wd' g er1 => ?_)
    obtain ⟨wd1, q1, q2, q3, q4, q5⟩ := er1.freeze
    rw [← q1]
    refine ih O h3 e2 q5 fun us wd2 ar g2 er2 => ?_
    exact k (v :: us) wd2 (.val (q4.mono g2.f) ar) ((g.trans q3).trans g2) er2
  · cases hc
theorem as_io {s as} (ih : AsOk P as) : AsOk P (.io s as) := by
  intro X sc es env env' hs σ vs ts wd pn Q O hc he er k
  simp only [chkAs] at hc
  split at hc
  · obtain ⟨h1, h2, h3⟩ := and3 hc
    simp only [evAs] at he
    split at he
    · rename_i u hu
      simp only [Option.map_eq_some_iff] at he
      obtain ⟨⟨hs', env2⟩, e2, e3⟩ := he
      cases e3
      obtain ⟨v, hv⟩ := er.slot hu
      refine sa_of (pa_cons se_pe sa_pa (star_of rfl _ _)) (name_se O (of_decide_eq_true h1) h2 hv (ih O h3 e2 er fun us wd2 ar g2 er2 => ?_))
      exact k (v :: us) wd2 (.io hv ar) g2 er2
    · cases he
  · cases hc
theorem any_as {sc : Scope} : ∀ {as : AXs} {xs : List Expr}, chkAs P as sc xs = true → (∀ y ∈ xs, plainB y = true)
  | .nil, [], _ => fun _ h => nomatch h
  | .nil, _ :: _, h => by simp [chkAs] at h
  | .val x as, [], h => by simp [chkAs] at h
  | .val x as, y :: ys, h => fun z hz => by
    obtain ⟨h1, h2, h3⟩ := and3 (show (plainB y && chkX P x sc y && chkAs P as sc ys) = true by simpa [chkAs] using h)
    rcases List.mem_cons.mp hz with q | q
    · rw [q]
      exact h1
    · exact any_as h3 z q
  | .io s as, [], h => by simp [chkAs] at h
  | .io s as, y :: ys, h => fun z hz => by
    simp only [chkAs] at h
    split at h
    · rename_i e
      cases e
      obtain ⟨h1, h2, h3⟩ := and3 h
      rcases List.mem_cons.mp hz with q | q
      · rw [q]
        rfl
      · exact any_as h3 z q
    · cases h
theorem plain_any : ∀ {xs : List Expr}, (∀ y ∈ xs, plainB y = true) → ∀ (pos : Pos) (env : Env), (backTo pos (starEach xs env)).any (·.1) = false
  | [], _, _, _ => rfl
  | x :: xs, h, pos, env => by
    rw [star_of (h x List.mem_cons_self)]
    show (false || (backTo pos (starEach xs env)).any (·.1)) = false
    rw [plain_any (fun y hy => h y (List.mem_cons_of_mem _ hy)) pos env]
    rfl
theorem xo_call {f as} (ih : AsOk P as) : XOkT P (.call f as) := by
  intro X sc x env env' t σ vs ts wd pn Q O hc he er k
  simp only [chkX] at hc
  split at hc
  · rename_i n p xs pos
    obtain ⟨h1, h2, h3⟩ := and3 hc
    have en := of_decide_eq_true h1
    subst en
    obtain ⟨g, gd⟩ := gl_of O.sc h2
    simp only [evX, Option.bind_eq_some_iff] at he
    obtain ⟨⟨hs, env1⟩, e1, ars, e2, e3⟩ := he
    split at e3
    · rename_i nd
      simp only [Option.bind_eq_some_iff, Option.map_eq_some_iff] at e3
      obtain ⟨⟨t1, ios⟩, e4, env2, e5, e6⟩ := e3
      cases e6
      obtain ⟨fa, fd, ps, sp, kk, m, kp, hb, F, hr', _, _, hq⟩ := (O.call _ _ _ _ e4).ex
      have fin : ∀ us wd', AhR X.K wd'.h0 σ us hs → Ge wd wd' → ER X.K wd' pn σ env1 vs ts → sp us wd'.h Q E0 := fun us wd' ar g1 er1 => by
        refine er1.called (t := t1) (ios := ios) ar e2 nd e5 fun as ra z cont => ?_
        refine hq us wd'.h0 wd'.h as Q er1.sub ra z fun w2 v bs cs g2 s2 rt rc dj mine => ?_
        obtain ⟨wd3, q1, q2, q3⟩ := cont w2 v bs cs g2 s2 rt rc dj mine
        have := k v wd3 (g1.trans q2) q3
        rw [q1] at this
        exact this
      cases xs with
      | nil =>
        have hsn : hs = [] ∧ env1 = env := by
          cases as with
          | nil =>
            cases e1
            exact ⟨rfl, rfl⟩
          | val _ _ => simp [chkAs] at h3
          | io _ _ => simp [chkAs] at h3
        obtain ⟨ehs, een⟩ := hsn
        subst ehs een
        exact se_of (pe_call0 F hr' g m kp hb .nil pass0 gd) (fin [] wd .nil (Ge.refl wd) er)
      | cons y ys =>
        have pl := any_as h3
        refine se_of (pe_call F hr' g m kp hb .nil pass0 sa_pa1 gd (star_of (pl y List.mem_cons_self) _ _) (plain_any (fun z hz => pl z (List.mem_cons_of_mem _ hz)) _ _)) (ih O h3 e1 er fun us wd' ar g1 er1 => ?_)
        rw [List.append_nil]
        exact fin us wd' ar g1 er1
    · cases e3
  · cases hc

/-! ### the rest -/
theorem own_of {env : TEnv} {s : Nat} (h : ownAt env s = true) : ∃ u ts, sl env s = some u ∧ u.t = .own ts := by
  unfold ownAt at h
  split at h
  · rename_i u hu
    split at h
    · rename_i ts hts
      exact ⟨u, ts, hu, hts⟩
    · cases h
  · cases h
theorem ER.lstAt {K : PySem.W.Frag} {wd : Wd} {pn : Nat → Option V} {σ : L2.St} {env : TEnv} {vs : List V} {ts : List T} {s : Nat} {u : Sl} {ts0 : List T} (e : ER K wd pn σ env vs ts) (h : sl env s = some u) (hu : u.t = .own ts0) :
    ∃ a us as, σ[s]? = some (some (.ref a)) ∧ wd.h a = some (.lst us) ∧ RpTs K wd.h0 wd.h us ts0 as := by
  obtain ⟨F, as, f⟩ := e.own
  obtain ⟨v, hv, r⟩ := f.at_ s u h
  rw [hu] at r
  obtain ⟨a, us, b, rfl, ha, rb, _, _⟩ := r.own_inv
  exact ⟨a, us, b, hv, ha, rb⟩
theorem xo_pop {s i} (ii : XOkT P i) : XOkT P (.pop s i) := by
  intro X sc x env env' t σ vs ts wd pn Q O hc he er k
  simp only [chkX] at hc
  split at hc
  · rename_i n p1 m p y q
    simp only [Bool.and_eq_true] at hc
    obtain ⟨⟨⟨⟨⟨h1, h2⟩, h3⟩, h4⟩, h5⟩, h6⟩ := hc
    have em := of_decide_eq_true h3
    subst em
    simp only [evX] at he
    split at he
    · rename_i ho
      simp only [Option.bind_eq_some_iff] at he
      obtain ⟨⟨t1, env1⟩, e1, e2⟩ := he
      dsimp only at e2
      obtain ⟨u0, ts0, hu0, ht0⟩ := own_of ho
      obtain ⟨a, us0, as0, hv, ha, _⟩ := er.lstAt hu0 ht0
      split at e2
      · rename_i kk u hu
        split at e2
        · rename_i ts1 hts1
          split at e2
          · rename_i hk
            simp only [Option.bind_eq_some_iff, Option.map_eq_some_iff] at e2
            obtain ⟨j, ej, tj, ej2, e3⟩ := e2
            cases e3
            refine se_of (pe_bm PySem.F.plainAttrs_list PySem.F.slot_list_pop PySem.F.type_list_pop mt_popAt se_pe (pa_cons se_pe pa_nil (star_of h5 _ _)) rfl (by rw [star_of h5]; rfl) (by simpa using of_decide_eq_true h4) (star_of h5 _ _) rfl) (name_se O (of_decide_eq_true h1) h2 hv ?_)
            refine ⟨.inl ⟨rfl, us0, .of ha⟩, ii O h6 e1 er fun w wd' g er1 => ?_⟩
            have rw' := er1.top
            cases rw'
            obtain ⟨b, us, v, hσ, hb, hl, hvj, wd2, q1, q2, q3⟩ := er1.drop.popj hu hts1 ej2
            have eab : b = a := by
              rw [hv] at hσ
              cases hσ
              rfl
            subst eab
            obtain ⟨j1, j2, j3, j4⟩ := ixN_seq ej
            refine ⟨b, us, kk, j, v, rfl, rfl, hb, hk.1, hk.2, by rw [hl]; exact j1, hvj, ?_⟩
            have := k v wd2 (g.trans q2) q3
            rw [q1] at this
            exact this
          · cases e2
        · cases e2
      · cases e2
    · cases he
  · cases hc
theorem bin_scal {o : Operator} {d e g : D} (h1 : scal d = true) (h2 : scal e = true) (h : binV o d e = some g) : scal g = true := by
  unfold binV at h
  repeat' (split at h)
  all_goals first
    | (cases h; first | rfl | cases h1 | cases h2)
    | cases h
theorem xo_bin {o a b} (ia : XOkT P a) (ib : XOkT P b) : XOkT P (.bin o a b) := by
  intro X sc x env env' t σ vs ts wd pn Q O hc he er k
  simp only [chkX] at hc
  split at hc
  · obtain ⟨h1, h2, h3⟩ := and3 hc
    have eo := of_decide_eq_true h1
    subst eo
    simp only [evX, Option.bind_eq_some_iff] at he
    obtain ⟨⟨t1, env1⟩, e1, ⟨t2, env2⟩, e2, e3⟩ := he
    dsimp only at e3
    split at e3
    · rename_i d e'
      split at e3
      · rename_i g0 hg
        cases e3
        split at hg
        · rename_i hsc
          obtain ⟨s1, s2⟩ := Bool.and_eq_true_iff.mp hsc
          refine se_of (pe_op (op_binD _) se_pe se_pe) (ia O h2 e1 er fun v wd1 g1 er1 => ib O h3 e2 er1 fun w wd2 g2 er2 => ?_)
          have rv : Rp X.K wd2.h0 v d := er2.drop.top
          refine ⟨wd2.h0, d, e', g0, er2.sub, rv, er2.top, hg, fun z H0' H' g3 r3 => ?_⟩
          obtain ⟨q1, q2⟩ := er2.drop.drop.made g3 r3
          exact k z _ ((g1.trans g2).trans q2) q1
        · cases hg
      · cases e3
    · cases e3
  · cases hc
theorem xo_rel {o a b} (ia : XOkT P a) (ib : XOkT P b) : XOkT P (.rel o a b) := by
  intro X sc x env env' t σ vs ts wd pn Q O hc he er k
  simp only [chkX] at hc
  split at hc
  · simp only [Bool.and_eq_true] at hc
    obtain ⟨⟨⟨h1, h0⟩, h2⟩, h3⟩ := hc
    have eo := of_decide_eq_true h1
    subst eo
    simp only [evX, Option.bind_eq_some_iff] at he
    obtain ⟨⟨t1, env1⟩, e1, ⟨t2, env2⟩, e2, e3⟩ := he
    dsimp only at e3
    split at e3
    · rename_i d e'
      split at e3
      · rename_i g0 hg
        cases e3
        split at hg
        · refine se_of (pe_cmpR (op_cmpD O.hu _) se_pe se_pe (by simpa using h0)) (ia O h2 e1 er fun v wd1 g1 er1 => ib O h3 e2 er1 fun w wd2 g2 er2 => ?_)
          have rv : Rp X.K wd2.h0 v d := er2.drop.top
          refine ⟨wd2.h0, d, e', g0, er2.sub, rv, er2.top, hg, fun z H0' H' g3 r3 => ?_⟩
          obtain ⟨q1, q2⟩ := er2.drop.drop.made g3 r3
          exact k z _ ((g1.trans g2).trans q2) q1
        · cases hg
      · cases e3
    · cases e3
  · cases hc
theorem xo_not {a} (ia : XOkT P a) : XOkT P (.not a) := by
  intro X sc x env env' t σ vs ts wd pn Q O hc he er k
  simp only [chkX] at hc
  split at hc
  · simp only [evX, Option.bind_eq_some_iff] at he
    obtain ⟨⟨t1, env1⟩, e1, e2⟩ := he
    dsimp only at e2
    split at e2
    · rename_i d _
      simp only [Option.map_eq_some_iff] at e2
      obtain ⟨b, e3, e4⟩ := e2
      cases e4
      refine se_of (pe_notT se_pe) (ia O hc e1 er fun v wd1 g1 er1 => ⟨b, tru_D er1.sub er1.top e3, k _ wd1 g1 (er1.drop.push (.bl _))⟩)
    · cases e2
  · cases hc
theorem xo_idv {s i} (ii : XOkT P i) : XOkT P (.idv s i) := by
  intro X sc x env env' t σ vs ts wd pn Q O hc he er k
  simp only [chkX] at hc
  split at hc
  · rename_i n p1 j p
    simp only [Bool.and_eq_true] at hc
    obtain ⟨⟨⟨h1, h2⟩, h3⟩, h4⟩ := hc
    simp only [evX] at he
    split at he
    · rename_i ho
      obtain ⟨u0, hu0⟩ := Option.isSome_iff_exists.mp ho
      simp only [Option.bind_eq_some_iff] at he
      obtain ⟨⟨t1, env1⟩, e1, e2⟩ := he
      dsimp only at e2
      obtain ⟨v, hv⟩ := er.slot hu0
      split at e2
      · rename_i kk u hu
        split at e2
        · rename_i ds hds
          simp only [Option.map_eq_some_iff] at e2
          obtain ⟨d, ed, e3⟩ := e2
          cases e3
          refine se_of (pe_ix ix_list se_pe se_pe (plainIx_of h3)) (name_se O (of_decide_eq_true h1) h2 hv (ii O h4 e1 er fun w wd1 g1 er1 => ?_))
          have rw' := er1.top
          cases rw'
          obtain ⟨F, as, f⟩ := er1.own
          obtain ⟨v', hv', rv⟩ := f.at_ s u hu
          rw [hv] at hv'
          cases hv'
          rw [hds] at rv
          obtain ⟨a, xs, rfl, ha, ra⟩ := rv.fz_inv.1.list_inv
          obtain ⟨z, ez, rz⟩ := atI_map ra ed
          exact ⟨a, xs, kk, z, rfl, rfl, .of (er1.sub _ _ ha), ez, k z wd1 g1 (er1.drop.push rz)⟩
        · rename_i ts1 hts1
          split at e2
          · rename_i d ed
            split at e2
            · rename_i hsc
              cases e2
              refine se_of (pe_ix ix_list se_pe se_pe (plainIx_of h3)) (name_se O (of_decide_eq_true h1) h2 hv (ii O h4 e1 er fun w wd1 g1 er1 => ?_))
              have rw' := er1.top
              cases rw'
              obtain ⟨a, us, as, hσ, ha, ra⟩ := er1.lstAt hu hts1
              rw [hv] at hσ
              cases hσ
              unfold atI at ed
              obtain ⟨jj, ej, ed2⟩ := Option.bind_eq_some_iff.mp ed
              obtain ⟨z, aj, rest, hz, rz, _⟩ := ra.at_ ed2
              refine ⟨a, us, kk, z, rfl, rfl, .of ha, ?_, k z wd1 g1 (er1.drop.push rz.fz_inv.1)⟩
              unfold atI
              rw [ra.length, ej]
              exact hz
            · cases e2
          · cases e2
        · cases e2
      · cases e2
    · cases he
  · cases hc
theorem ix_fz {it : It} : IXOk P (.fz it) := by
  intro X sc t x env env' ds σ vs ts wd pn R O hc he er k
  simp only [itX, Option.map_eq_some_iff] at he
  obtain ⟨ds', e1, e2⟩ := he
  cases e2
  refine all_It P.p it O.x hc e1 er.sub er.fRep fun J H0' H' g wk => ?_
  obtain ⟨a, b⟩ := er.grow g
  exact k J _ b a wk
theorem ix_rng {a : TX} (ia : XOkT P a) : IXOk P (.rng a) := by
  intro X sc t x env env' ds σ vs ts wd pn R O hc he er k
  simp only [chkIX] at hc
  split at hc
  · simp only [Bool.and_eq_true] at hc
    obtain ⟨⟨⟨⟨h1, h2⟩, h3⟩, h4⟩, h5⟩ := hc
    have en := of_decide_eq_true h1
    subst en
    obtain ⟨g, gd⟩ := gl_of O.sc h2
    simp only [itX, Option.bind_eq_some_iff] at he
    obtain ⟨⟨t1, env1⟩, e1, e2⟩ := he
    dsimp only at e2
    split at e2
    · simp only [Option.map_eq_some_iff] at e2
      obtain ⟨ds', e3, e4⟩ := e2
      cases e4
      obtain ⟨hz, ed⟩ := rngD_inv e3
      refine si_of (pi_range1 g (free_of O.x h3) (pa_cons se_pe pa_nil (star_of h4 _ _)) (star_of h4 _ _)) (ia O h5 e1 er fun v wd1 g1 er1 => ?_)
      have rv := er1.top
      cases rv
      refine ⟨_, rfl, hz.2.2.1, hz.2.2.2, k _ wd1 g1 er1.drop (wk_rng ?_)⟩
      rw [ed, Int.sub_zero]
    · cases e2
  · cases hc
end Eng
set_option maxRecDepth 100000
set_option maxHeartbeats 4000000
/-! EngO: comprehensions with a value that is owned; all value expressions. -/
namespace Eng
open PySem PySem.Spec PyProof.Rows L2

theorem clr_spec : ∀ {is : List Nat} {env env' : TEnv}, clr is env = some env' → env'.length = env.length ∧ (∀ i u, sl env' i = some u → sl env i = some u ∧ i ∉ is)
  | [], _, _, h => by
    cases h
    exact ⟨rfl, fun i u h => ⟨h, fun z => nomatch z⟩⟩
  | i :: is, env, env', h => by
    simp only [clr] at h
    split at h
    · cases h
    · obtain ⟨a, b⟩ := clr_spec h
      refine ⟨by rw [a, List.length_set], fun j u hj => ?_⟩
      obtain ⟨c, d⟩ := b j u hj
      by_cases q : j = i
      · subst q
        rw [sl_set, if_pos rfl] at c
        split at c <;> cases c
      · rw [sl_set_ne q] at c
        exact ⟨c, fun z => (List.mem_cons.mp z).elim q d⟩
section
variable {K : PySem.W.Frag} {wd : Wd} {pn : Nat → Option V} {σ : L2.St} {env : TEnv} {vs : List V} {ts : List T}
/-- a slot that is not pinned takes what is held -/
theorem ER.putS {s : Nat} {v : V} {t : T} {env' : TEnv} (e : ER K wd pn σ env (v :: vs) (t :: ts)) (h : put env s t = some env') : ER K wd pn (σ.set s (some v)) env' vs ts := by
  unfold put at h
  split at h
  · cases h
  · cases h
    by_cases hs : s < env.length
    · exact e.store hs rfl fun t' z => by cases z
    · have hl := e.len
      rw [List.set_eq_of_length_le (show σ.length ≤ s by omega), List.set_eq_of_length_le (show env.length ≤ s by omega)]
      exact e.drop
/-- a target takes its data -/
theorem ER.bind {tg : Tg} {d : D} {ds : List D} {us : List V} {env' : TEnv} (e : ER K wd pn σ env vs ts) (h : bindT tg d env = some env') (ht : tgVals tg d = some ds) (r : RpAll K wd.h0 us ds) : ER K wd pn (setAll σ (tgIx tg) us) env' vs ts := by
  unfold tgVals at ht
  split at ht
  · cases ht
    cases r with
    | cons r1 rr =>
      cases rr
      simp only [bindT] at h
      exact (e.push r1).putS h
  · cases ht
    cases r with
    | cons r1 rr =>
      cases rr with
      | cons r2 rr =>
        cases rr
        simp only [bindT, Option.bind_eq_some_iff] at h
        obtain ⟨env1, h1, h2⟩ := h
        exact (((e.push r1).putS h1).push r2).putS h2
  · cases ht
    cases r with
    | cons r1 rr =>
      cases rr with
      | cons r2 rr =>
        cases rr with
        | cons r3 rr =>
          cases rr
          simp only [bindT, Option.bind_eq_some_iff] at h
          obtain ⟨env1, h1, env2, h2, h3⟩ := h
          exact (((((e.push r1).putS h1).push r2).putS h2).push r3).putS h3
  · cases ht
theorem bindT_vals {tg : Tg} {d : D} {env env' : TEnv} (h : bindT tg d env = some env') : ∃ ds, tgVals tg d = some ds := by
  unfold bindT at h
  split at h
  · exact ⟨_, rfl⟩
  · exact ⟨_, rfl⟩
  · exact ⟨_, rfl⟩
  · cases h
/-- the list that is held grows by what is held ahead of it -/
theorem ER.snocT {v : V} {t : T} {p : Addr} {tl : List T} (e : ER K wd pn σ env (v :: .ref p :: vs) (t :: .own tl :: ts)) :
    ∃ us, wd.h p = some (.lst us) ∧ us.length = tl.length ∧ ∃ wd', wd'.h = upd wd.h p (.lst (us ++ [v])) ∧ Ge wd wd' ∧ ER K wd' pn σ env (.ref p :: vs) (.own (tl ++ [t]) :: ts) := by
  obtain ⟨F, as, f⟩ := e.own
  obtain ⟨bs, cs, r1, r2, d, ea⟩ := RpTs.split (us := [v]) (ts1 := [t]) rfl f.tmp
  subst ea
  obtain ⟨b2, c2, r3, r4, d2, ec⟩ := RpTs.split (us := [.ref p]) (ts1 := [.own tl]) rfl r2
  subst ec
  obtain ⟨a, us, b3, e1, ha, rs, na, e2⟩ := r3.one_inv.own_inv
  cases e1
  subst e2
  have hp : wd.w p ∧ wd.h0 p = none := f.mtmp p (by simp)
  have nF : ∀ i, ∀ x ∈ F i, x ≠ p := fun i x hx z => f.dtmp i x hx (by rw [z]; simp)
  have nb : ∀ x ∈ bs, x ≠ p := fun x hx z => d x hx (by rw [z]; simp)
  have n3 : ∀ x ∈ b3, x ≠ p := fun x hx z => na (by rw [← z]; exact hx)
  have nc : ∀ x ∈ c2, x ≠ p := fun x hx z => d2 p (by simp) (by rw [← z]; exact hx)
  have mem : ∀ x, x ∈ (p :: (b3 ++ bs)) ++ c2 → x ∈ bs ++ ((p :: b3) ++ c2) := fun x hx => by
    simp only [List.mem_append, List.mem_cons] at hx ⊢
    rcases hx with (q | q | q) | q
    · exact .inr (.inl (.inl q))
    · exact .inr (.inl (.inr q))
    · exact .inl q
    · exact .inr (.inr q)
  refine ⟨us, ha, rs.length, ⟨wd.h0, upd wd.h p (.lst (us ++ [v])), wd.w⟩, rfl, ⟨.refl _, fun x o h n => ?_, fun x h => .inl h, fun x h => .inl h⟩, e.len, fun x o h => ?_, ⟨F, (p :: (b3 ++ bs)) ++ c2, fun i u hu => ?_, f.no, f.dis, f.mine, ?_, fun i x hx h => f.dtmp i x hx (mem x h), fun x hx => f.mtmp x (mem x hx)⟩, e.pin⟩
  · show upd wd.h p _ x = some o
    rw [upd_ne fun z => n (by rw [z]; exact hp.1)]
    exact h
  · show upd wd.h p _ x = some o
    rw [upd_ne fun z => by rw [z, hp.2] at h; cases h]
    exact e.sub x o h
  · obtain ⟨w, a, b⟩ := f.at_ i u hu
    exact ⟨w, a, b.frame (.refl _) fun x hx => upd_ne (nF i x hx)⟩
  · refine .cons (.own upd_same ((rs.frame (.refl _) fun x hx => upd_ne (n3 x hx)).join (r1.frame (.refl _) fun x hx => upd_ne (nb x hx)) fun x hx h => ?_) fun h => ?_) (r4.frame (.refl _) fun x hx => upd_ne (nc x hx)) fun x hx h => ?_
    · exact d x h (List.mem_append_left _ (List.mem_cons_of_mem _ hx))
    · rcases List.mem_append.mp h with q | q
      · exact na q
      · exact nb p q rfl
    · rcases List.mem_cons.mp hx with q | q
      · exact nc x h q
      · rcases List.mem_append.mp q with q | q
        · exact d2 x (List.mem_cons_of_mem _ q) h
        · exact d x q (List.mem_append_right _ h)
end
variable {P : PrgT}
def CmpOk (P : PrgT) (x : TX) : Prop := ∀ {X : Cx} {sc : Scope} {e : Expr} {env env' : TEnv} {t : T} {σ : L2.St} {vs : List V} {ts : List T} {wd : Wd} {pn : Nat → Option V} {Q : VK}, XTk P X sc → chkX P x sc e = true → evX P.ct x env = some (t, env') → ER X.K wd pn σ env vs ts →
  (∀ v wd', Ge wd wd' → ER X.K wd' pn σ env' (v :: vs) (t :: ts) → Q v wd'.h) → LcC X e σ wd.h Q
theorem c_cmp {elt tg it} (ii : IXOk P it) (ie : XOkT P elt) : CmpOk P (.cmp elt tg it) := by
  intro X sc x env env' t σ vs ts wd pn Q O hc he er k
  simp only [chkX] at hc
  split at hc
  · rename_i e t1 i sc' pos
    simp only [Bool.and_eq_true] at hc
    obtain ⟨⟨⟨⟨c1, c2⟩, c3⟩, c4⟩, c5⟩ := hc
    simp only [evX, Option.bind_eq_some_iff] at he
    obtain ⟨⟨ds, env1⟩, e1, e2⟩ := he
    dsimp only at e2
    split at e2
    · rename_i hz
      simp only [Option.bind_eq_some_iff, Option.map_eq_some_iff] at e2
      obtain ⟨env2, ec, ⟨res, env3⟩, e3, e4⟩ := e2
      cases e4
      refine ⟨e, t1, i, [], sc', ownOf P.N tg, pos, _, gTg X.K tg, tYes, fun σ H Q => ∀ s H_ C cl fp, SE (blkX X s H_ sc' C cl fp) e σ H Q, rfl, O.calm, by rw [O.hN]; exact O.nd, si_pi (tg := t1), by rw [O.hN, O.sc]; exact blkOk_by c2,
        (fun s H_ C cl fp => pg_tg (P := P.p) (X := blkX X s H_ sc' C cl fp) (sc := relS sc' sc) (own := sc') (by show X.N.Nodup; rw [O.hN]; exact O.nd) O.calm O.hN (xtk_blk O s H_ C cl fp).sc (fun y h => hfn_blk y h) c3),
        (fun s H_ C cl fp => pts_nil), (fun s H_ C cl fp => ⟨fun pins s1 σ1 H1 Q1 I h => h s H_ C cl fp pins s1 I⟩), (fun x => fold_of c1 _ x), ?_⟩
      rw [ixOwn]
      refine ii O c4 e1 er fun J wd1 g1 er1 wk => ?_
      obtain ⟨cl, cn⟩ := clr_spec ec
      have er2 : ER X.K wd1 pn σ env2 vs ts := er1.forget (by rw [er1.len, cl]) fun i u hu => ⟨(cn i u hu).1, rfl⟩
      have n2 : ∀ i u, sl env2 i = some u → i ∉ tgIx tg := fun i u hu => (cn i u hu).2
      intro Dl nD
      let F : D → TEnv → Option (T × TEnv) := fun d env => (bindT tg d env).bind fun env' => evX P.ct elt env'
      let S : Nat → Hp → Prop := fun i H2 => ∃ (w2 : Wd) (envi : TEnv) (da rest : List T), w2.h = H2 ∧ Ge wd1 w2 ∧ ER X.K w2 pn σ envi (.ref Dl :: vs) (.own da :: ts) ∧ da.length = i ∧ cmpX F (tgIx tg) (ds.drop i) envi = some (rest, env3) ∧ da ++ rest = res ∧ (∀ i u, sl envi i = some u → i ∉ tgIx tg)
      have st : S 0 (upd wd1.h Dl (.lst [])) := by
        obtain ⟨a, b⟩ := ER.newList (us := []) (ts1 := []) rfl er2 nD
        exact ⟨_, env2, [], res, rfl, b, a, rfl, e3, rfl, n2⟩
      refine ⟨fun i m H2 => m = ds.length - i ∧ i ≤ ds.length ∧ S i H2, ⟨ds.length, by simp, Nat.zero_le _, st⟩, ?_⟩
      rintro i m H2 ⟨rfl, hi, w2, envi, da, rest, rfl, ge, erI, ln, eC, er_, nI⟩
      by_cases hlt : i < ds.length
      · right
        obtain ⟨d, hd⟩ : ∃ d, ds[i]? = some d := ⟨_, List.getElem?_eq_getElem hlt⟩
        have hdr : ds.drop i = d :: ds.drop (i + 1) := by
          rw [List.drop_eq_getElem_cons hlt]
          congr 1
          exact Option.some.inj ((List.getElem?_eq_getElem hlt).symm.trans hd)
        rw [hdr] at eC
        simp only [cmpX, Option.bind_eq_some_iff, Option.map_eq_some_iff] at eC
        obtain ⟨⟨ty, envb⟩, eF, envc, ecl, ⟨rest', env4⟩, eR, e5⟩ := eC
        cases e5
        obtain ⟨enva, eb, ee⟩ := Option.bind_eq_some_iff.mp (show (bindT tg d envi).bind (fun env' => evX P.ct elt env') = some (ty, envb) from eF)
        refine ⟨wk.go i w2.h (ge.f.trans erI.sub) hlt, S (i + 1), fun H' h => ⟨ds.length - (i + 1), by omega, rfl, hlt, h⟩, fun xv H' y => ?_⟩
        obtain ⟨H0', g, rx⟩ := wk.yld i w2.h0 w2.h xv H' d ge.f erI.sub hd y
        obtain ⟨erG, geG⟩ := erI.grow g
        obtain ⟨vals, hv⟩ := bindT_vals eb
        refine gTg_ok g.c rx hv fun us rvs lv => ⟨wipe_setAll σ _ us, ?_⟩
        unfold tYes
        refine iteT ?_
        intro s H_ C cl fp
        rw [setAll_wipe _ _ _ lv]
        have erB := erG.bind eb hv rvs
        refine ie (xtk_blk O s H_ C cl fp) c5 ee erB fun z w3 g3 er3 => ?_
        obtain ⟨acc, q1, q2, w4, q3, g4, er4⟩ := er3.snocT
        refine ⟨acc, q1, ?_, w4, envc, da ++ [ty], rest', q3, ((ge.trans geG).trans g3).trans g4, ?_, ?_, eR, ?_, ?_⟩
        · have hz' : ds.length < sizeLine := hz
          omega
        · obtain ⟨b1, b2⟩ := clr_spec ecl
          refine er4.forget ?_ fun j u hj => ⟨(b2 j u hj).1, (setAll_out _ _ _ _ (b2 j u hj).2).symm⟩
          rw [b1, ← er4.len, setAll_length]
        · rw [List.length_append]
          show da.length + 1 = i + 1
          rw [ln]
        · rw [List.append_assoc]
          exact er_
        · exact fun j u hj => ((clr_spec ecl).2 j u hj).2
      · left
        have e : i = ds.length := by omega
        subst e
        rw [List.drop_length] at eC
        cases eC
        rw [List.append_nil] at er_
        subst er_
        exact ⟨wk.stop _ _ (ge.f.trans erI.sub) (Nat.le_refl _), k _ w2 (g1.trans ge) erI⟩
    · cases e2
  · cases hc
theorem xo_cmp {elt tg it} (ii : IXOk P it) (ie : XOkT P elt) : XOkT P (.cmp elt tg it) := fun O hc he er k => (c_cmp ii ie O hc he er k).se

mutual
theorem all_X (P : PrgT) : ∀ x : TX, XOkT P x
  | .sc e => xo_sc
  | .fr e => xo_fr
  | .mv s => xo_mv
  | .lst xs => xo_lst (all_Xs P xs)
  | .cmp elt tg it => xo_cmp (all_IX P it) (all_X P elt)
  | .listof e => xo_listof
  | .rep d n => xo_rep
  | .call f as => xo_call (all_As P as)
  | .pop s i => xo_pop (all_X P i)
  | .bin o a b => xo_bin (all_X P a) (all_X P b)
  | .idv s i => xo_idv (all_X P i)
  | .not a => xo_not (all_X P a)
  | .rel o a b => xo_rel (all_X P a) (all_X P b)
theorem all_Xs (P : PrgT) : ∀ x : TXs, XsOk P x
  | .nil => xs_nil
  | .cons x xs => xs_cons (all_X P x) (all_Xs P xs)
theorem all_As (P : PrgT) : ∀ x : AXs, AsOk P x
  | .nil => as_nil
  | .val x as => as_val (all_X P x) (all_As P as)
  | .io s as => as_io (all_As P as)
theorem all_IX (P : PrgT) : ∀ x : IX, IXOk P x
  | .fz it => ix_fz
  | .rng a => ix_rng (all_X P a)
end
end Eng
set_option maxRecDepth 100000
set_option maxHeartbeats 4000000
/-! EngP: statements: the written text against them, their soundness. -/
namespace Eng
open PySem PySem.Spec PyProof.Rows L2

def SS (X : Cx) (st : Stmt) (D : Ends) (σ : L2.St) (H : Hp) : Prop := ∀ (pins : List (Addr × Obj)) (s : Shared), L2.Inv X pins σ H s → wpAny (model X.prog X.w) X.A (exec st X.env) (SP X pins D) X.xe s
def SB (X : Cx) (st : List Stmt) (D : Ends) (σ : L2.St) (H : Hp) : Prop := ∀ (pins : List (Addr × Obj)) (s : Shared), L2.Inv X pins σ H s → wpAny (model X.prog X.w) X.A (execs st X.env) (SP X pins D) X.xe s
theorem ss_ps {X : Cx} {st : Stmt} : PS X st (fun D σ H => SS X st D σ H) := ⟨fun pins s σ H D I h => h pins s I⟩
theorem sb_ps {X : Cx} {st : List Stmt} : PSs X st (fun D σ H => SB X st D σ H) := ⟨fun pins s σ H D I h => h pins s I⟩
theorem ss_of {X : Cx} {st : Stmt} {t : TS} {D : Ends} {σ : L2.St} {H : Hp} (h : PS X st t) (q : t D σ H) : SS X st D σ H := fun pins s I => h.run pins s σ H D I q
theorem sb_of {X : Cx} {st : List Stmt} {t : TS} {D : Ends} {σ : L2.St} {H : Hp} (h : PSs X st t) (q : t D σ H) : SB X st D σ H := fun pins s I => h.run pins s σ H D I q

/-! ### the check -/
def compB : Expr → Bool
  | .ListComp _ _ _ _ => true
  | .SetComp _ _ _ _ => true
  | .DictComp _ _ _ _ _ => true
  | _ => false
def locB (sc : Scope) (x : Str) : Bool := match sc.names.lookup x with | some .local => true | some .cell => true | _ => false
def localB (sc : Scope) (x : Str) : Bool := match sc.names.lookup x with | some .local => true | _ => false
def stdB : Expr → Bool
  | .UnaryOp .Not _ _ => false
  | .BoolOp _ _ _ => false
  | .Compare _ _ _ _ => false
  | .IfExp _ _ _ _ => false
  | _ => true
def swB (sc : Scope) (n : Str) (p : Pos) (e : Expr) : Bool := match e with
  | .ListComp _ _ s q => localB sc n && (p.line == q.line) && !(s.names.any fun (m, k) => m == n && (k == .local || k == .cell))
  | _ => false
def compX : TX → Bool
  | .cmp _ _ _ => true
  | .fr (.lc _ _ _) => true
  | .fr (.lcc _ _ _ _) => true
  | _ => false
def addB : Operator → Bool
  | .Add => true
  | .Sub => true
  | _ => false
/-- a, b = x, y: the stores go to two locals of the line, from the right -/
def parB (sc : Scope) (x y : Str) (px py : Pos) (a b : Expr) : Bool := localB sc x && localB sc y && (py.line == px.line) && !(x == y) && !(foldedForSure 8 a && foldedForSure 8 b) && !(constantsAlone 8 a && constantsAlone 8 b)
/-- a, b = x, y: a tuple, and then its items -/
def tupB (sc : Scope) (x y : Str) (px py : Pos) (a b : Expr) : Bool := !(localB sc x && localB sc y && (py.line == px.line)) || (foldedForSure 8 a && foldedForSure 8 b)
/-- a test by its value -/
def tstX : TX → Expr → Bool
  | .not _, x => match x with | .UnaryOp .Not v _ => stdB v | _ => false
  | .rel _ _ _, _ => true
  | _, x => stdB x
def frzS : S → Bool
  | .frz _ => true
  | _ => false
mutual
def chkS (P : PrgT) : S → Scope → Stmt → Bool
  | .ex x, sc, st => match st with | .Expr e _ => !compB e && chkX P x sc e | _ => false
  | .asg s x, sc, st => match st with | .Assign [.Name n p] e _ => decide (P.N[s]? = some n) && locB sc n && chkX P x sc e && (!compB e || (decide (sc.kind = .function) && compX x)) | _ => false
  | .par s1 s2 x1 x2, sc, st => match st with
    | .Assign [.Tuple [.Name n px, .Name m py] _ _] (.Tuple [a, b] _ _) _ => decide (P.N[s1]? = some n) && decide (P.N[s2]? = some m) && decide (sc.kind = .function) && locB sc n && locB sc m && plainB a && plainB b && chkX P x1 sc a && chkX P x2 sc b && (parB sc n m px py a b || tupB sc n m px py a b)
    | _ => false
  | .aug s o e, sc, st => match st with | .AugAssign (.Name n _) o' x _ => decide (o' = o) && addB o && decide (P.N[s]? = some n) && locB sc n && chkE P.p e sc x | _ => false
  | .app s x, sc, st => match st with | .Expr (.Call (.Attribute (.Name n _) m p) [y] [] q) _ => decide (P.N[s]? = some n) && visB sc n && decide (m = "append") && decide (p.endLine = q.line) && plainB y && chkX P x sc y | _ => false
  | .appi s i x, sc, st => match st with | .Expr (.Call (.Attribute (.Subscript (.Name n _) j _) m p) [y] [] q) _ => decide (P.N[s]? = some n) && visB sc n && plainIxB j && decide (m = "append") && decide (p.endLine = q.line) && plainB y && chkE P.p i sc j && chkE P.p x sc y | _ => false
  | .set1 s i x, sc, st => match st with | .Assign [.Subscript (.Name n _) j _] e _ => decide (P.N[s]? = some n) && visB sc n && plainIxB j && chkE P.p i sc j && chkX P x sc e | _ => false
  | .set2 s i j x, sc, st => match st with | .Assign [.Subscript (.Subscript (.Name n _) y _) z _] e _ => decide (P.N[s]? = some n) && visB sc n && plainIxB y && plainIxB z && chkE P.p i sc y && chkE P.p j sc z && chkX P x sc e | _ => false
  | .iff t a b, sc, st => match st with | .If c p q _ => tstB c && chkE P.p t sc c && chkSs P a sc p && chkSs P b sc q | _ => false
  | .iffx t a b, sc, st => match st with | .If c p q _ => tstX t c && chkX P t sc c && chkSs P a sc p && chkSs P b sc q | _ => false
  | .for_ tg it body, sc, st => match st with | .For t i b [] _ => noSetB i && chkTg P.N sc sc tg t && chkIX P it sc t i && chkSs P body sc b | _ => false
  | .forO x s body, sc, st => match st with | .For t (.Name n _) b [] _ => decide (P.N[s]? = some n) && visB sc n && chkTg P.N sc sc (.one x) t && chkSs P body sc b | _ => false
  | .whl t body, sc, st => match st with | .While c b [] _ => tstB c && chkE P.p t sc c && chkSs P body sc b | _ => false
  | .ret x, sc, st => match st with | .Return (some e) _ => chkX P x sc e | _ => false
  | .retN, _, st => match st with | .Return none _ => true | _ => false
  | .brk, _, st => match st with | .Break _ => true | _ => false
  | .cnt, _, st => match st with | .Continue _ => true | _ => false
  | .pas, _, st => match st with | .Pass _ => true | _ => false
  | .nev, _, _ => true
  | .frz _, _, _ => false
def chkSs (P : PrgT) : Ss → Scope → List Stmt → Bool
  | .nil, _, l => match l with | [] => true | _ => false
  | .cons s ss, sc, l => if frzS s then chkSs P ss sc l else match l with | st :: rest => chkS P s sc st && chkSs P ss sc rest | _ => false
end

/-- what is wanted behind a statement that comes to o -/
def Fin (K : PySem.W.Frag) (pn : Nat → Option V) (vs : List V) (ts : List T) (wd : Wd) (D : Ends) : Out → Prop
  | .nx env => ∀ σ wd', Ge wd wd' → ER K wd' pn σ env vs ts → D.nx σ wd'.h
  | .rt t env => ∀ v σ wd', Ge wd wd' → ER K wd' pn σ env (v :: vs) (t :: ts) → D.rt v wd'.h
  | .bk env => ∀ σ wd', Ge wd wd' → ER K wd' pn σ env vs ts → D.bk σ wd'.h
  | .ct env => ∀ σ wd', Ge wd wd' → ER K wd' pn σ env vs ts → D.ct σ wd'.h
theorem Fin.ge {K : PySem.W.Frag} {pn : Nat → Option V} {vs : List V} {ts : List T} {a b : Wd} {D : Ends} {o : Out} (g : Ge a b) (f : Fin K pn vs ts a D o) : Fin K pn vs ts b D o := by
  cases o with
  | nx env => exact fun σ w h e => f σ w (g.trans h) e
  | rt t env => exact fun v σ w h e => f v σ w (g.trans h) e
  | bk env => exact fun σ w h e => f σ w (g.trans h) e
  | ct env => exact fun σ w h e => f σ w (g.trans h) e
variable {P : PrgT}
def SOk (P : PrgT) (s : S) : Prop := ∀ {X : Cx} {sc : Scope} {st : Stmt} {env : TEnv} {o : Out} {σ : L2.St} {vs : List V} {ts : List T} {wd : Wd} {pn : Nat → Option V} {D : Ends}, XTk P X sc → (∀ y, X.fn y = true) → chkS P s sc st = true → exS P.ct P.fuel s env = some o → ER X.K wd pn σ env vs ts →
  Fin X.K pn vs ts wd D o → SS X st D σ wd.h
def SsOk (P : PrgT) (s : Ss) : Prop := ∀ {X : Cx} {sc : Scope} {st : List Stmt} {env : TEnv} {o : Out} {σ : L2.St} {vs : List V} {ts : List T} {wd : Wd} {pn : Nat → Option V} {D : Ends}, XTk P X sc → (∀ y, X.fn y = true) → chkSs P s sc st = true → exSs P.ct P.fuel s env = some o → ER X.K wd pn σ env vs ts →
  Fin X.K pn vs ts wd D o → SB X st D σ wd.h

/-! ### helpers -/
theorem swap_no {e : Expr} (h : compB e = false) (t : Option Expr) (l : Nat) (env : Env) : swapsWith e t l env = pure false := by
  cases e <;> first | rfl | cases h
theorem swap_sub {e o i : Expr} {p : Pos} (l : Nat) (env : Env) : swapsWith e (some (.Subscript o i p)) l env = pure false := by
  cases e <;> rfl
theorem swaps_sub {e o i : Expr} {p : Pos} (l : Nat) (env : Env) : swapsWithSole [.Subscript o i p] e l env = pure false := swap_sub (o := o) (i := i) (p := p) l env
theorem swSt_sub {e o i : Expr} {p : Pos} (env : Env) : swappedStores [.Subscript o i p] e env = pure none := by
  cases e <;> rfl
theorem loc_of {sc : Scope} {x : Str} {X : Cx} (e : X.env.scope = sc) (h : locB sc x = true) : Loc X.env.scope x := by
  unfold locB at h
  rw [e]
  split at h
  · rename_i q
    exact .inl q
  · rename_i q
    exact .inr q
  · cases h
theorem local_of {sc : Scope} {x : Str} (h : localB sc x = true) : sc.names.lookup x = some .local := by
  unfold localB at h
  split at h
  · rename_i q
    exact q
  · cases h
theorem local_no {sc : Scope} {x : Str} (h : localB sc x = false) : (sc.names.lookup x == some .local) = false := by
  unfold localB at h
  split at h
  · cases h
  · rename_i q
    cases e : sc.names.lookup x with
    | none => rfl
    | some k =>
      cases k <;> first
        | exact absurd e q
        | rfl
theorem local_eq (sc : Scope) (x : Str) : (sc.names.lookup x == some .local) = localB sc x := by
  cases h : localB sc x with
  | true =>
    rw [local_of h]
    rfl
  | false => exact local_no h
theorem swap_lc {sc : Scope} {n : Str} {p : Pos} {elt : Expr} {gs : List Comprehension} {s : Scope} {q : Pos} {env : Env} (he : env.scope = sc) (hk : sc.kind = .function) (l : Nat) :
    swapsWith (.ListComp elt gs s q) (some (.Name n p)) l env = pure (swB sc n p (.ListComp elt gs s q)) := by
  have hb : env.blockKind = .function := by
    unfold Env.blockKind
    rw [he, hk]
    rfl
  have ky : (env.kindOf n == some .local) = localB sc n := by
    rw [← local_eq, ← he]
    rfl
  unfold swapsWith
  simp only [hb, ky, Expr.pos, swB]
  rfl
/-- a comprehension's value is stored by its own rule -/
theorem comp_ok {x : TX} (h : compX x = true) : CmpOk P x := by
  unfold compX at h
  split at h
  · exact c_cmp (all_IX P _) (all_X P _)
  · intro X sc x env env' t σ vs ts wd pn Q O hc he er k
    simp only [evX, Option.map_eq_some_iff] at he
    obtain ⟨d, e1, e2⟩ := he
    cases e2
    refine c_lc (all_It P.p _) (all_E P.p _).1 O.x hc e1 er.sub er.fRep fun v H0' H' g r => ?_
    obtain ⟨a, b⟩ := er.made g r
    exact k v _ b a
  · intro X sc x env env' t σ vs ts wd pn Q O hc he er k
    simp only [evX, Option.map_eq_some_iff] at he
    obtain ⟨d, e1, e2⟩ := he
    cases e2
    refine c_lcc (all_It P.p _) (all_E P.p _).1 (all_E P.p _).2 O.x hc e1 er.sub er.fRep fun v H0' H' g r => ?_
    obtain ⟨a, b⟩ := er.made g r
    exact k v _ b a
  · cases h
theorem isTrue_std {x : Expr} (h : stdB x = true) (env : Env) (wh : Sem Value) : isTrue x env wh = (do let v ← wh; standAt x.pos; holding [v] (truthy v)) := by
  cases x with
  | UnaryOp op v pos =>
    cases op with
    | Not => cases h
    | _ => rfl
  | BoolOp _ _ _ => cases h
  | Compare _ _ _ _ => cases h
  | IfExp _ _ _ _ => cases h
  | _ => rfl

theorem star_no {a b : Expr} (h6 : plainB a = true) (h7 : plainB b = true) : ([a, b].any fun x => match x with | .Starred _ _ => true | _ => false) = false := by
  have hst : ∀ y, plainB y = true → (match y with | .Starred _ _ => true | _ => false) = false := fun y hy => by
    cases y <;> first | rfl | cases hy
  simp only [List.any_cons, List.any_nil, Bool.or_false]
  rw [hst a h6, hst b h7]
  rfl
theorem fm_two {X : Env} {n m : Str} {px py : Pos} {sc : Scope} (kn : ∀ y, (X.kindOf y == some .local) = localB sc y) : ([Expr.Name n px, Expr.Name m py].filterMap fun x => match x with
    | .Name id pos => if X.kindOf id == some .local && pos.line == px.line then some id else none
    | _ => none) = (if localB sc n then [n] else []) ++ (if localB sc m && (py.line == px.line) then [m] else []) := by
  simp only [List.filterMap_cons, List.filterMap_nil, kn, beq_self_eq_true, Bool.and_true]
  cases localB sc n <;> cases (localB sc m && (py.line == px.line)) <;> rfl
theorem sw_par {env : Env} {n m : Str} {px py pt pt2 : Pos} {k1 k2 : Nat} {a b : Expr} {sc : Scope} (hb : env.blockKind = .function) (kn : ∀ y, (env.kindOf y == some .local) = localB sc y) (h6 : plainB a = true) (h7 : plainB b = true)
    (q1 : localB sc n = true) (q2 : localB sc m = true) (q3 : (py.line == px.line) = true) (q4 : ¬ n = m) (q5 : (foldedForSure 8 a && foldedForSure 8 b) = false) (q6 : (constantsAlone 8 a && constantsAlone 8 b) = false) :
    swappedStores [.Tuple [.Name n px, .Name m py] k1 pt] (.Tuple [a, b] k2 pt2) env = pure (some [n, m]) := by
  have an := star_no h6 h7
  have fm := fm_two (n := n) (m := m) (px := px) (py := py) kn
  rw [q1, q2, q3] at fm
  have ed : ([n, m].eraseDups).length = 2 := by
    have : ¬ m = n := fun z => q4 z.symm
    simp [List.eraseDups_cons, this]
  have f1 : [a, b].all (foldedForSure 8) = false := by
    simp only [List.all_cons, List.all_nil, Bool.and_true]
    exact q5
  have f2 : [a, b].all (constantsAlone 8) = false := by
    simp only [List.all_cons, List.all_nil, Bool.and_true]
    exact q6
  unfold swappedStores
  simp only [hb, List.head?_cons, Option.map_some, Option.getD_some, Expr.pos]
  have cond : ∀ F : List Str, F = [n, m] → ¬ ((F.length != 2 || F.eraseDups.length != F.length) = true) := fun F e => by
    subst e
    rw [ed]
    simp
  refine (if_neg (by simp)).trans ?_
  refine (if_neg fun h => Bool.noConfusion (an.symm.trans h)).trans ?_
  refine (if_neg (cond _ fm)).trans ?_
  refine (if_neg (by rw [f1]; simp)).trans ?_
  refine (if_neg (by rw [f2]; simp)).trans ?_
  exact congrArg (fun F => pure (some F)) fm
theorem sw_tup {env : Env} {n m : Str} {px py pt pt2 : Pos} {k1 k2 : Nat} {a b : Expr} {sc : Scope} (hb : env.blockKind = .function) (kn : ∀ y, (env.kindOf y == some .local) = localB sc y) (h6 : plainB a = true) (h7 : plainB b = true)
    (q : tupB sc n m px py a b = true) : swappedStores [.Tuple [.Name n px, .Name m py] k1 pt] (.Tuple [a, b] k2 pt2) env = pure none := by
  have an := star_no h6 h7
  have fm := fm_two (n := n) (m := m) (px := px) (py := py) kn
  have f1 : [a, b].all (foldedForSure 8) = (foldedForSure 8 a && foldedForSure 8 b) := by
    simp only [List.all_cons, List.all_nil, Bool.and_true]
  unfold tupB at q
  unfold swappedStores
  simp only [hb, List.head?_cons, Option.map_some, Option.getD_some, Expr.pos]
  refine (if_neg (by simp)).trans ?_
  refine (if_neg fun h => Bool.noConfusion (an.symm.trans h)).trans ?_
  refine (ite_congr rfl (fun _ => rfl) fun h3 => ?_).trans (ite_self _)
  have : (foldedForSure 8 a && foldedForSure 8 b) = true := by
    rcases Bool.or_eq_true_iff.mp q with z | z
    · exfalso
      have cond : ∀ F : List Str, F = (if localB sc n then [n] else []) ++ (if localB sc m && (py.line == px.line) then [m] else []) → (F.length != 2 || F.eraseDups.length != F.length) = true := fun F e => by
        have l : F.length ≠ 2 := by
          rw [e]
          simp only [Bool.not_eq_true', Bool.and_eq_false_iff] at z
          rcases z with (z | z) | z <;> rw [z] <;> simp <;> split <;> simp
        simp [l]
      exact h3 (cond _ fm)
    · exact z
  refine (if_pos (by rw [f1, this])).trans rfl
/-! ### small statements -/
theorem so_ex {x : TX} : SOk P (.ex x) := by
  intro X sc st env o σ vs ts wd pn D O hf hc he er k
  simp only [chkS] at hc
  split at hc
  · obtain ⟨h1, h2⟩ := Bool.and_eq_true_iff.mp hc
    simp only [exS, Option.map_eq_some_iff] at he
    obtain ⟨⟨t, env1⟩, e1, e2⟩ := he
    cases e2
    refine ss_of (ps_expr se_pe (swap_no (by simpa using h1) _ _ _)) (all_X P x O h2 e1 er fun v wd' g er' => ?_)
    exact k σ wd' g er'.drop
  · cases hc
theorem so_asg {s : Nat} {x : TX} : SOk P (.asg s x) := by
  intro X sc st env o σ vs ts wd pn D O hf hc he er k
  simp only [chkS] at hc
  split at hc
  · rename_i n p e pos
    simp only [Bool.and_eq_true] at hc
    obtain ⟨⟨⟨h1, h2⟩, h3⟩, h4⟩ := hc
    simp only [exS, Option.bind_eq_some_iff, Option.map_eq_some_iff] at he
    obtain ⟨⟨t, env1⟩, e1, env2, e2, e3⟩ := he
    cases e3
    have hN : X.N[s]? = some n := by
      rw [O.hN]
      exact of_decide_eq_true h1
    have nd : X.N.Nodup := by
      rw [O.hN]
      exact O.nd
    have lo := loc_of O.sc h2
    have fin : ∀ (v : V) (wd' : Wd), Ge wd wd' → ER X.K wd' pn σ env1 (v :: vs) (t :: ts) → gName s v σ wd'.h D.nx := fun v wd' g er' => k _ wd' g (er'.putS e2)
    have plain : swapsWith e (some (.Name n p)) pos.line X.env = pure false → SS X (.Assign [.Name n p] e pos) D σ wd.h := fun hs => ss_of (ps_set nd hN lo se_pe hs (.inl (hf n))) (all_X P x O h3 e1 er fin)
    cases hcb : compB e with
    | false => exact plain (swap_no hcb _ _ _)
    | true =>
      rw [hcb] at h4
      obtain ⟨k1, k2⟩ := Bool.and_eq_true_iff.mp (show (decide (sc.kind = .function) && compX x) = true from h4)
      have lc := comp_ok k2 O h3 e1 er fin
      obtain ⟨elt, tg, iter, ifs, scope, own, pos', wi, g, tt, te, rfl, a1, a2, a3, a4, a5, a6, a7, a8, q⟩ := lc
      cases hsw : swB sc n p (.ListComp elt [⟨tg, iter, ifs, 0⟩] scope pos') with
      | false =>
        refine plain ?_
        rw [swap_lc O.sc (of_decide_eq_true k1), hsw]
      | true =>
        have hl : localB sc n = true := by
          unfold swB at hsw
          simp only [Bool.and_eq_true] at hsw
          exact hsw.1.1
        refine ss_of (ps_setLc a1 a2 hN (by rw [O.sc]; exact local_of hl) ?_ a3 a4 a5 a6 a7 a8) q
        rw [swap_lc O.sc (of_decide_eq_true k1), hsw]
  · cases hc
theorem so_par {s1 s2 : Nat} {x1 x2 : TX} : SOk P (.par s1 s2 x1 x2) := by
  intro X sc st env o σ vs ts wd pn D O hf hc he er k
  simp only [chkS] at hc
  split at hc
  · rename_i n px m py k1 pt a b k2 pt2 pos
    simp only [Bool.and_eq_true] at hc
    obtain ⟨⟨⟨⟨⟨⟨⟨⟨⟨h1, h2⟩, h3⟩, h4⟩, h5⟩, h6⟩, h7⟩, h8⟩, h9⟩, h10⟩ := hc
    simp only [exS, Option.bind_eq_some_iff] at he
    obtain ⟨⟨t1, env1⟩, e1, ⟨t2, env2⟩, e2, e3⟩ := he
    dsimp only at e3
    split at e3
    · cases e3
    · rename_i hij
      simp only [Option.bind_eq_some_iff, Option.map_eq_some_iff] at e3
      obtain ⟨env3, e4, env4, e5, e6⟩ := e3
      cases e6
      have hk := of_decide_eq_true h3
      have hN1 : X.N[s1]? = some n := by
        rw [O.hN]
        exact of_decide_eq_true h1
      have hN2 : X.N[s2]? = some m := by
        rw [O.hN]
        exact of_decide_eq_true h2
      have nd : X.N.Nodup := by
        rw [O.hN]
        exact O.nd
      have hb : X.env.blockKind = .function := by
        unfold Env.blockKind
        rw [O.sc, hk]
        rfl
      have kn : ∀ y, (X.env.kindOf y == some .local) = localB sc y := fun y => by
        rw [← local_eq, ← O.sc]
        rfl
      -- the two values
      have vals : ∀ {Q : List V → Hp → Prop}, (∀ v w wd', Ge wd wd' → ER X.K wd' pn σ env2 (v :: w :: vs) (t1 :: t2 :: ts) → Q [v, w] wd'.h) → SA X [a, b] σ wd.h Q := fun {Q} kq => by
        have ih : XsOk P (.cons x1 (.cons x2 .nil)) := all_Xs P _
        have c1 : chkXs P (.cons x1 (.cons x2 .nil)) sc [a, b] = true := by
          simp only [chkXs]
          rw [h6, h7, h8, h9]
          rfl
        have c2 : evXs P.ct (.cons x1 (.cons x2 .nil)) env = some ([t1, t2], env2) := by
          simp only [evXs, e1, Option.bind_some]
          have e2' : evX P.ct x2 env1 = some (t2, env2) := e2
          rw [e2']
          rfl
        refine ih O c1 c2 er fun us wd' hl g er' => ?_
        match us, hl with
        | [v, w], _ => exact kq v w wd' g er'
      have fin : ∀ (v w : V) (wd' : Wd), Ge wd wd' → ER X.K wd' pn σ env2 (v :: w :: vs) (t1 :: t2 :: ts) → D.nx ((σ.set s1 (some v)).set s2 (some w)) wd'.h := fun v w wd' g er' => k _ wd' g ((er'.putS e4).putS e5)
      rcases Bool.or_eq_true_iff.mp h10 with q | q
      · unfold parB at q
        simp only [Bool.and_eq_true, Bool.not_eq_true'] at q
        obtain ⟨⟨⟨⟨⟨q1, q2⟩, q3⟩, q4⟩, q5⟩, q6⟩ := q
        refine ss_of (ps_par O.calm nd hN1 hN2 hij (by rw [O.sc]; exact local_of q1) (by rw [O.sc]; exact local_of q2) sa_pa ?_ rfl) (vals fun v w wd' g er' => ⟨v, w, rfl, fin v w wd' g er'⟩)
        exact sw_par hb kn h6 h7 q1 q2 q3 (by simpa using q4) q5 q6
      · -- a tuple
        have sw : swappedStores [.Tuple [.Name n px, .Name m py] k1 pt] (.Tuple [a, b] k2 pt2) X.env = pure none := by
          exact sw_tup hb kn h6 h7 q
        refine ss_of (ps_asg (pe_tup sa_pa) (pg_tup O.calm (pgs_cons (pg_name nd hN1 (loc_of O.sc h4) (.inl (hf n))) (pgs_cons (pg_name nd hN2 (loc_of O.sc h5) (.inl (hf m))) pgs_nil))) rfl sw) ?_
        refine vals fun v w wd' g er' => ⟨by show 2 ≤ sizeLine; decide, fun p hp => ?_⟩
        obtain ⟨er2, g2⟩ := er'.growW (same_new (o := .tup [v, w]) hp)
        exact ⟨p, [v, w], rfl, .of upd_same, rfl, v, [w], rfl, w, [], rfl, rfl, fin v w _ (g.trans g2) er2⟩
  · cases hc
end Eng
set_option maxRecDepth 100000
set_option maxHeartbeats 4000000
/-! EngQ: statements, the rest; all statements. -/
namespace Eng
open PySem PySem.Spec PyProof.Rows L2
variable {P : PrgT}

theorem ixN_lt' {n : Nat} {k : Int} {j : Nat} (h : ixN n k = some j) : j < n := (ixN_seq h).2.1
theorem nm_of2 {X : Cx} {sc : Scope} {s : Nat} {n : Str} (O : XTk P X sc) (h : decide (P.N[s]? = some n) = true) : X.N[s]? = some n := by
  rw [O.hN]
  exact of_decide_eq_true h
theorem nd_of {X : Cx} {sc : Scope} (O : XTk P X sc) : X.N.Nodup := by
  rw [O.hN]
  exact O.nd
theorem so_aug {s : Nat} {o' : Operator} {e : E} : SOk P (.aug s o' e) := by
  intro X sc st env o σ vs ts wd pn D O hf hc he er k
  simp only [chkS] at hc
  split at hc
  · rename_i n p op x pos
    simp only [Bool.and_eq_true] at hc
    obtain ⟨⟨⟨⟨h1, h2⟩, h3⟩, h4⟩, h5⟩ := hc
    have eo := of_decide_eq_true h1
    subst eo
    simp only [exS, Option.bind_eq_some_iff] at he
    obtain ⟨y, e1, e2⟩ := he
    split at e2
    · rename_i x0 hs
      obtain ⟨v, hv, _⟩ := er.take hs
      obtain ⟨F, as, f⟩ := er.own
      obtain ⟨v', hv', rv⟩ := f.at_ s _ hs
      have ev : v' = .int x0 := by
        have := rv.fz_inv.1
        cases this
        rfl
      subst ev
      have run : ∀ (g : Int → Int → Int) (j : Int), y = .int j → PIp X op (ipI g) → o = .nx (env.set s (some (.val (.fz (.int (g x0 j)))))) → SS X (.AugAssign (.Name n p) op x pos) D σ wd.h := fun g j ey ip eo => by
        subst ey eo
        refine ss_of (ps_aug (nd_of O) (nm_of2 O h3) (loc_of O.sc h4) se_pe ip (.inl (hf n))) ⟨.int x0, hv', ?_⟩
        refine (all_E P.p e).1 O.x h5 e1 (.refl wd.h) er.dRep fun w H0' H' gr r => ?_
        cases r
        obtain ⟨a, b⟩ := er.growW gr.a
        refine ⟨x0, j, rfl, rfl, k _ _ b ?_⟩
        have a2 := a.push (v := .int (g x0 j)) (d := .int (g x0 j)) (.int _)
        exact a2.store (sl_lt hs) rfl fun t' z => by cases z
      split at e2
      · cases e2
        exact run _ _ rfl ip_add rfl
      · cases e2
        exact run _ _ rfl ip_sub rfl
      · cases e2
    · cases e2
  · cases hc
theorem so_app {s : Nat} {x : TX} : SOk P (.app s x) := by
  intro X sc st env o σ vs ts wd pn D O hf hc he er k
  simp only [chkS] at hc
  split at hc
  · rename_i n p1 m p y q pos
    simp only [Bool.and_eq_true] at hc
    obtain ⟨⟨⟨⟨⟨h1, h2⟩, h3⟩, h4⟩, h5⟩, h6⟩ := hc
    have em := of_decide_eq_true h3
    subst em
    simp only [exS] at he
    split at he
    · rename_i ho
      simp only [Option.bind_eq_some_iff] at he
      obtain ⟨⟨t, env1⟩, e1, e2⟩ := he
      dsimp only at e2
      obtain ⟨u0, ts0, hu0, ht0⟩ := own_of ho
      obtain ⟨a, us0, as0, hv, ha, _⟩ := er.lstAt hu0 ht0
      split at e2
      · rename_i u hu
        split at e2
        · rename_i ts1 hts1
          split at e2
          · rename_i hz
            cases e2
            refine ss_of (ps_expr (pe_bm PySem.F.plainAttrs_list PySem.F.slot_list_append PySem.F.type_list_append mt_append se_pe (pa_cons se_pe pa_nil (star_of h5 _ _)) rfl (by rw [star_of h5]; rfl) (by simpa using of_decide_eq_true h4) (star_of h5 _ _) rfl) rfl) (name_se O (of_decide_eq_true h1) h2 hv ?_)
            refine ⟨.inl ⟨rfl, us0, .of ha⟩, all_X P x O h6 e1 er fun w wd' g er1 => ?_⟩
            obtain ⟨b, us, hσ, hb, hl, wd2, q1, q2, q3⟩ := er1.app hu hts1
            have eab : b = a := by
              rw [hv] at hσ
              cases hσ
              rfl
            subst eab
            refine ⟨b, us, w, rfl, rfl, hb, by rw [hl]; exact hz, ?_⟩
            have := k _ wd2 (g.trans q2) q3
            rw [q1] at this
            exact this
          · cases e2
        · cases e2
      · cases e2
    · cases he
  · cases hc
theorem atI_of {α : Type} {xs : List α} {k : Int} {j : Nat} {x : α} (h : ixN xs.length k = some j) (e : xs[j]? = some x) : atI xs k = some x := by
  unfold atI
  rw [h]
  exact e
theorem so_appi {s : Nat} {i x : E} : SOk P (.appi s i x) := by
  intro X sc st env o σ vs ts wd pn D O hf hc he er k
  simp only [chkS] at hc
  split at hc
  · rename_i n p1 j p2 m p y q pos
    simp only [Bool.and_eq_true] at hc
    obtain ⟨⟨⟨⟨⟨⟨⟨h1, h2⟩, h3⟩, h4⟩, h5⟩, h6⟩, h7⟩, h8⟩ := hc
    have em := of_decide_eq_true h4
    subst em
    simp only [exS, Option.bind_eq_some_iff] at he
    obtain ⟨iv, e1, d, e2, e3⟩ := he
    split at e3
    · rename_i hsc
      split at e3
      · rename_i u hu
        split at e3
        · rename_i ts1 hts1
          simp only [Option.bind_eq_some_iff] at e3
          obtain ⟨jj, ej, e4⟩ := e3
          split at e4
          · rename_i us0 hus0
            split at e4
            · rename_i hz
              cases e4
              obtain ⟨kk, rfl⟩ : ∃ kk, iv = .int kk := by
                unfold idxOf at ej
                split at ej
                · exact ⟨_, rfl⟩
                · cases ej
              have ej : ixN ts1.length kk = some jj := ej
              obtain ⟨v0, hv⟩ := er.slot hu
              refine ss_of (ps_expr (pe_bm PySem.F.plainAttrs_list PySem.F.slot_list_append PySem.F.type_list_append mt_append (pe_ix ix_list se_pe se_pe (plainIx_of h3)) (pa_cons se_pe pa_nil (star_of h6 _ _)) rfl (by rw [star_of h6]; rfl) (by simpa using of_decide_eq_true h5) (star_of h6 _ _) rfl) rfl) (name_se O (of_decide_eq_true h1) h2 hv ?_)
              refine (all_E P.p i).1 O.x h7 e1 (.refl wd.h) er.dRep fun w H0' H' g r => ?_
              cases r
              obtain ⟨er1, g1⟩ := er.growW g.a
              obtain ⟨a, us, as, hσ, ha, ra⟩ := er1.lstAt hu hts1
              rw [hv] at hσ
              cases hσ
              obtain ⟨z, aj, rest, hz1, rz, _⟩ := ra.at_ hus0
              obtain ⟨b, ws, _, rfl, hb, _, _, _⟩ := rz.own_inv
              refine ⟨a, us, kk, .ref b, rfl, rfl, .of ha, atI_of (by rw [ra.length]; exact ej) hz1, ?_⟩
              refine ⟨.inl ⟨rfl, ws, .of hb⟩, ?_⟩
              refine (all_E P.p x).1 O.x h8 e2 (.refl _) (er.dRep.mono g.a) fun w2 H1' H1 gx rx => ?_
              obtain ⟨er2, g2⟩ := er1.growW gx.a
              obtain ⟨a', b', us', ws', hσ', ha', hl', hb1, hb2, hl2, wd3, q1, q2, q3⟩ := (er2.push (scal_rp rx hsc)).appj hu hts1 hus0
              have eaa : a' = a := by
                rw [hv] at hσ'
                cases hσ'
                rfl
              subst eaa
              have e1' : H1 a' = some (.lst us) := gx.a _ _ ha
              have eu : us' = us := by
                have ha' : H1 a' = some (.lst us') := ha'
                rw [e1'] at ha'
                cases ha'
                rfl
              subst eu
              have eb : b' = b := by
                rw [hz1] at hb1
                cases hb1
                rfl
              subst eb
              have hb2' : H1 b' = some (.lst ws') := hb2
              refine ⟨b', ws', w2, rfl, rfl, hb2', by rw [hl2]; exact hz, ?_⟩
              have := k _ wd3 ((g1.trans g2).trans q2) q3
              rw [q1] at this
              exact this
            · cases e4
          · cases e4
        · cases e3
      · cases e3
    · cases e3
  · cases hc
theorem so_set1 {s : Nat} {i : E} {x : TX} : SOk P (.set1 s i x) := by
  intro X sc st env o σ vs ts wd pn D O hf hc he er k
  simp only [chkS] at hc
  split at hc
  · rename_i n p1 j p2 e pos
    simp only [Bool.and_eq_true] at hc
    obtain ⟨⟨⟨⟨h1, h2⟩, h3⟩, h4⟩, h5⟩ := hc
    simp only [exS, Option.bind_eq_some_iff] at he
    obtain ⟨⟨t, env1⟩, e1, iv, e2, e3⟩ := he
    dsimp only at e2 e3
    split at e3
    · rename_i u hu
      split at e3
      · rename_i ts1 hts1
        simp only [Option.map_eq_some_iff] at e3
        obtain ⟨jj, ej, e4⟩ := e3
        cases e4
        obtain ⟨kk, rfl⟩ : ∃ kk, iv = .int kk := by
          unfold idxOf at ej
          split at ej
          · exact ⟨_, rfl⟩
          · cases ej
        have ej : ixN ts1.length kk = some jj := ej
        refine ss_of (ps_asg se_pe (pg_sub se_pe se_pe set_list (by intro v; cases j <;> first | rfl | cases h3)) (swaps_sub _ _) (swSt_sub _)) (all_X P x O h5 e1 er fun v wd1 g1 er1 => ?_)
        obtain ⟨v0, hv⟩ := er1.slot hu
        refine name_se O (of_decide_eq_true h1) h2 hv ?_
        refine (all_E P.p i).1 O.x h4 e2 (.refl wd1.h) er1.dRep fun w H0' H' g r => ?_
        cases r
        obtain ⟨er2, g2⟩ := er1.growW g.a
        have hjj : jj < ts1.length := ixN_lt' ej
        obtain ⟨a, us, hσ, ha, hl, wd2, q1, q2, q3⟩ := er2.setj hu hts1 hjj
        rw [hv] at hσ
        cases hσ
        refine ⟨a, us, kk, jj, rfl, rfl, ha, by rw [hl]; exact ej, ?_⟩
        have := k _ wd2 ((g1.trans g2).trans q2) q3
        rw [q1] at this
        exact this
      · cases e3
    · cases e3
  · cases hc
theorem so_set2 {s : Nat} {i j : E} {x : TX} : SOk P (.set2 s i j x) := by
  intro X sc st env o σ vs ts wd pn D O hf hc he er k
  simp only [chkS] at hc
  split at hc
  · rename_i n p1 y p2 z p3 e pos
    simp only [Bool.and_eq_true] at hc
    obtain ⟨⟨⟨⟨⟨⟨h1, h2⟩, h3⟩, h4⟩, h5⟩, h6⟩, h7⟩ := hc
    simp only [exS, Option.bind_eq_some_iff] at he
    obtain ⟨⟨t, env1⟩, e1, iv, e2, jv, e2', e3⟩ := he
    dsimp only at e2 e2' e3
    split at e3
    · rename_i u hu
      split at e3
      · rename_i ts1 hts1
        simp only [Option.bind_eq_some_iff] at e3
        obtain ⟨aa, ea, e4⟩ := e3
        split at e4
        · rename_i us0 hus0
          simp only [Option.map_eq_some_iff] at e4
          obtain ⟨bb, eb, e5⟩ := e4
          cases e5
          obtain ⟨kk, rfl⟩ : ∃ kk, iv = .int kk := by
            unfold idxOf at ea
            split at ea
            · exact ⟨_, rfl⟩
            · cases ea
          obtain ⟨ll, rfl⟩ : ∃ ll, jv = .int ll := by
            unfold idxOf at eb
            split at eb
            · exact ⟨_, rfl⟩
            · cases eb
          have ea : ixN ts1.length kk = some aa := ea
          have eb : ixN us0.length ll = some bb := eb
          refine ss_of (ps_asg se_pe (pg_sub (pe_ix ix_list se_pe se_pe (plainIx_of h3)) se_pe set_list (by intro v; cases z <;> first | rfl | cases h4)) (swaps_sub _ _) (swSt_sub _)) (all_X P x O h7 e1 er fun v wd1 g1 er1 => ?_)
          obtain ⟨v0, hv⟩ := er1.slot hu
          refine name_se O (of_decide_eq_true h1) h2 hv ?_
          refine (all_E P.p i).1 O.x h5 e2 (.refl wd1.h) er1.dRep fun w H0' H' g r => ?_
          cases r
          obtain ⟨er2, g2⟩ := er1.growW g.a
          obtain ⟨a, us, as, hσ, ha, ra⟩ := er2.lstAt hu hts1
          rw [hv] at hσ
          cases hσ
          obtain ⟨zz, aj, rest, hz1, rz, _⟩ := ra.at_ hus0
          obtain ⟨b, ws, _, rfl, hb, _, _, _⟩ := rz.own_inv
          refine ⟨a, us, kk, .ref b, rfl, rfl, .of ha, atI_of (by rw [ra.length]; exact ea) hz1, ?_⟩
          refine (all_E P.p j).1 O.x h6 e2' (.refl _) (er1.dRep.mono g.a) fun w2 H1' H1 gx rx => ?_
          cases rx
          obtain ⟨er3, g3⟩ := er2.growW gx.a
          have hbb : bb < us0.length := ixN_lt' eb
          obtain ⟨a', b', us', ws', hσ', ha', hl', hb1, hb2, hl2, wd3, q1, q2, q3⟩ := er3.setij hu hts1 hus0 hbb
          have eaa : a' = a := by
            rw [hv] at hσ'
            cases hσ'
            rfl
          subst eaa
          have e1' : H1 a' = some (.lst us) := gx.a _ _ ha
          have eu : us' = us := by
            have ha' : H1 a' = some (.lst us') := ha'
            rw [e1'] at ha'
            cases ha'
            rfl
          subst eu
          have ebb : b' = b := by
            rw [hz1] at hb1
            cases hb1
            rfl
          subst ebb
          have hb2' : H1 b' = some (.lst ws') := hb2
          refine ⟨b', ws', ll, bb, rfl, rfl, hb2', by rw [hl2]; exact eb, ?_⟩
          have := k _ wd3 (((g1.trans g2).trans g3).trans q2) q3
          rw [q1] at this
          exact this
        · cases e4
      · cases e3
    · cases e3
  · cases hc
theorem so_ret {x : TX} : SOk P (.ret x) := by
  intro X sc st env o σ vs ts wd pn D O hf hc he er k
  simp only [chkS] at hc
  split at hc
  · simp only [exS, Option.map_eq_some_iff] at he
    obtain ⟨⟨t, env1⟩, e1, e2⟩ := he
    cases e2
    exact ss_of (ps_ret se_pe) (all_X P x O hc e1 er fun v wd' g er' => k v σ wd' g er')
  · cases hc
theorem so_retN : SOk P .retN := by
  intro X sc st env o σ vs ts wd pn D O hf hc he er k
  simp only [chkS] at hc
  split at hc
  · cases he
    exact ss_of ps_retN (k .non σ wd (Ge.refl wd) (er.push .non))
  · cases hc
theorem so_brk : SOk P .brk := by
  intro X sc st env o σ vs ts wd pn D O hf hc he er k
  simp only [chkS] at hc
  split at hc
  · cases he
    exact ss_of ps_break (k σ wd (Ge.refl wd) er)
  · cases hc
theorem so_cnt : SOk P .cnt := by
  intro X sc st env o σ vs ts wd pn D O hf hc he er k
  simp only [chkS] at hc
  split at hc
  · cases he
    exact ss_of ps_continue (k σ wd (Ge.refl wd) er)
  · cases hc
theorem so_pas : SOk P .pas := by
  intro X sc st env o σ vs ts wd pn D O hf hc he er k
  simp only [chkS] at hc
  split at hc
  · cases he
    exact ss_of ps_pass (k σ wd (Ge.refl wd) er)
  · cases hc
theorem so_nev : SOk P .nev := by
  intro X sc st env o σ vs ts wd pn D O hf hc he er k
  cases he
theorem so_frz {s : Nat} : SOk P (.frz s) := by
  intro X sc st env o σ vs ts wd pn D O hf hc he er k
  cases hc
theorem ss_nil : SsOk P .nil := by
  intro X sc st env o σ vs ts wd pn D O hf hc he er k
  simp only [chkSs] at hc
  split at hc
  · cases he
    exact sb_of pss_nil (k σ wd (Ge.refl wd) er)
  · cases hc
/-- a slot's own value is fixed from now on -/
theorem ER.frz {K : PySem.W.Frag} {wd : Wd} {pn : Nat → Option V} {σ : L2.St} {env : TEnv} {vs : List V} {ts : List T} {s : Nat} {t : T} (er : ER K wd pn σ env vs ts) (hs : sl env s = some (.val t)) :
    ∃ wd', wd'.h = wd.h ∧ Ge wd wd' ∧ ER K wd' pn σ (env.set s (some (.val (.fz t.data)))) vs ts := by
  obtain ⟨v, hv, er1⟩ := er.take hs
  obtain ⟨wd', q1, q2, q3, q4, q5⟩ := er1.freeze
  refine ⟨wd', q1, q3, ?_⟩
  have q6 := (q5.push q4).store (s := s) (u := .val (.fz t.data)) (by rw [List.length_set]; exact sl_lt hs) rfl fun t' z => by cases z
  rw [List.set_set, set_self hv] at q6
  exact q6
theorem ss_cons {s : S} {ss : Ss} (is : SOk P s) (ih : SsOk P ss) : SsOk P (.cons s ss) := by
  intro X sc st env o σ vs ts wd pn D O hf hc he er k
  simp only [chkSs] at hc
  split at hc
  · rename_i hfz
    cases s with
    | frz i =>
      simp only [exSs, exS, Option.bind_eq_some_iff] at he
      obtain ⟨o1, e1, e2⟩ := he
      split at e1
      · rename_i t hs
        cases e1
        obtain ⟨wd', q1, q2, q3⟩ := er.frz hs
        rw [← q1]
        exact ih O hf hc e2 q3 (k.ge q2)
      · cases e1
    | _ => cases hfz
  · split at hc
    · obtain ⟨h1, h2⟩ := Bool.and_eq_true_iff.mp hc
      simp only [exSs, Option.bind_eq_some_iff] at he
      obtain ⟨o1, e1, e2⟩ := he
      refine sb_of (pss_cons ss_ps sb_ps) (is O hf h1 e1 er ?_)
      cases o1 with
      | nx env1 => exact fun σ' wd' g er' => ih O hf h2 e2 er' (k.ge g)
      | rt t env1 =>
        cases e2
        exact k
      | bk env1 =>
        cases e2
        exact k
      | ct env1 =>
        cases e2
        exact k
    · cases hc
theorem so_iff {t : E} {a b : Ss} (ia : SsOk P a) (ib : SsOk P b) : SOk P (.iff t a b) := by
  intro X sc st env o σ vs ts wd pn D O hf hc he er k
  simp only [chkS] at hc
  split at hc
  · simp only [Bool.and_eq_true] at hc
    obtain ⟨⟨⟨h1, h2⟩, h3⟩, h4⟩ := hc
    simp only [exS, Option.bind_eq_some_iff] at he
    obtain ⟨kk, ⟨d, e1, e2⟩, e3⟩ := he
    refine ss_of (ps_if st_pt sb_ps sb_ps) ((all_E P.p t).2 O.x h2 h1 e1 e2 (.refl wd.h) er.dRep fun H0' H' g => ?_)
    obtain ⟨er1, g1⟩ := er.growW g.a
    cases kk with
    | true => exact ia O hf h3 e3 er1 (k.ge g1)
    | false => exact ib O hf h4 e3 er1 (k.ge g1)
  · cases hc
/-- a test on an expression that changes something -/
theorem tx_test {t : TX} {x : Expr} (ht : tstX t x = true) {X : Cx} {sc : Scope} {env env' : TEnv} {d : D} {b : Bool} {σ : L2.St} {vs : List V} {ts : List T} {wd : Wd} {pn : Nat → Option V} {Q : Bool → Hp → Prop} (O : XTk P X sc) (hc : chkX P t sc x = true) (he : evX P.ct t env = some (.fz d, env')) (hb : truth d = some b) (er : ER X.K wd pn σ env vs ts)
    (k : ∀ wd', Ge wd wd' → ER X.K wd' pn σ env' vs ts → Q b wd'.h) : ST X x σ wd.h Q := by
  have std : ∀ t' : TX, stdB x = true → chkX P t' sc x = true → evX P.ct t' env = some (.fz d, env') → ST X x σ wd.h Q := fun t' hs hc' he' =>
    st_of (pt_truth se_pe (isTrue_std hs X.env)) (all_X P t' O hc' he' er fun v wd1 g1 er1 => ⟨b, tru_D er1.sub er1.top hb, k wd1 g1 er1.drop⟩)
  cases t with
  | not a =>
    simp only [chkX] at hc
    split at hc
    · rename_i v p
      have hs : stdB v = true := ht
      simp only [evX, Option.bind_eq_some_iff] at he
      obtain ⟨⟨t1, env1⟩, e1, e2⟩ := he
      dsimp only at e2
      split at e2
      · rename_i d1
        simp only [Option.map_eq_some_iff] at e2
        obtain ⟨b1, e3, e4⟩ := e2
        cases e4
        cases hb
        refine st_of (pt_not (pt_truth se_pe (isTrue_std hs X.env))) (all_X P a O hc e1 er fun w wd1 g1 er1 => ⟨b1, tru_D er1.sub er1.top e3, k wd1 g1 er1.drop⟩)
      · cases e2
    · cases hc
  | rel o a b' =>
    simp only [chkX] at hc
    split at hc
    · simp only [Bool.and_eq_true] at hc
      obtain ⟨⟨⟨h1, h0⟩, h2⟩, h3⟩ := hc
      have eo := of_decide_eq_true h1
      subst eo
      simp only [evX, Option.bind_eq_some_iff] at he
      obtain ⟨⟨t1, env1⟩, e1, ⟨t2, env2⟩, e2, e3⟩ := he
      dsimp only at e3
      split at e3
      · rename_i d' e'
        split at e3
        · rename_i g0 hg
          cases e3
          split at hg
          · obtain ⟨b'', eb⟩ := cmp_bool hg
            subst eb
            cases hb
            refine st_of (pt_cmpR (op_cmpD O.hu _) se_pe se_pe (by simpa using h0)) (all_X P a O h2 e1 er fun v wd1 g1 er1 => all_X P b' O h3 e2 er1 fun w wd2 g2 er2 => ?_)
            have rv : Rp X.K wd2.h0 v d' := er2.drop.top
            refine ⟨wd2.h0, d', e', _, er2.sub, rv, er2.top, hg, fun z H0' H' g3 r3 => ?_⟩
            obtain ⟨q1, q2⟩ := er2.drop.drop.grow g3
            exact ⟨b, tru_bl r3 rfl, k _ ((g1.trans g2).trans q2) q1⟩
          · cases hg
        · cases e3
      · cases e3
    · cases hc
  | _ => exact std _ ht hc he
theorem so_iffx {t : TX} {a b : Ss} (ia : SsOk P a) (ib : SsOk P b) : SOk P (.iffx t a b) := by
  intro X sc st env o σ vs ts wd pn D O hf hc he er k
  simp only [chkS] at hc
  split at hc
  · simp only [Bool.and_eq_true] at hc
    obtain ⟨⟨⟨h1, h2⟩, h3⟩, h4⟩ := hc
    simp only [exS, Option.bind_eq_some_iff] at he
    obtain ⟨⟨x, env1⟩, e1, e2⟩ := he
    dsimp only at e2
    split at e2
    · rename_i d
      simp only [Option.bind_eq_some_iff] at e2
      obtain ⟨kk, e3, e4⟩ := e2
      refine ss_of (ps_if st_pt sb_ps sb_ps) (tx_test h1 O h2 e1 e3 er fun wd1 g1 er1 => ?_)
      cases kk with
      | true => exact ia O hf h3 e4 er1 (k.ge g1)
      | false => exact ib O hf h4 e4 er1 (k.ge g1)
    · cases e2
  · cases hc
theorem so_whl {t : E} {body : Ss} (ib : SsOk P body) : SOk P (.whl t body) := by
  intro X sc st env o σ vs ts wd pn D O hf hc he er k
  simp only [chkS] at hc
  split at hc
  · simp only [Bool.and_eq_true] at hc
    obtain ⟨⟨h1, h2⟩, h3⟩ := hc
    simp only [exS] at he
    refine ss_of (ps_while (by rw [O.xe]; exact .never) st_pt sb_ps) ?_
    refine ⟨fun m σ' H' => ∃ (env' : TEnv) (wd' : Wd), wd'.h = H' ∧ Ge wd wd' ∧ ER X.K wd' pn σ' env' vs ts ∧ whileL (fun env => (evV (cD P.ct) t (dEnv env)).bind truth) (fun env => exSs P.ct P.fuel body env) m env' = some o, ⟨P.fuel, env, wd, rfl, Ge.refl wd, er, he⟩, ?_⟩
    rintro m σ' _ ⟨env', wd', rfl, g, er', e⟩
    cases m with
    | zero => cases e
    | succ m =>
      simp only [whileL, Option.bind_eq_some_iff] at e
      obtain ⟨b, ⟨d, e1, e2⟩, e3⟩ := e
      refine (all_E P.p t).2 O.x h2 h1 e1 e2 (.refl wd'.h) er'.dRep fun H0' H1 g1 => ?_
      obtain ⟨er1, g2⟩ := er'.growW g1.a
      cases b with
      | false =>
        cases e3
        exact k σ' _ (g.trans g2) er1
      | true =>
        rw [if_pos rfl] at e3 ⊢
        obtain ⟨o1, e4, e5⟩ := Option.bind_eq_some_iff.mp e3
        refine ⟨_, fun σ2 H2 h => ⟨m, Nat.lt_succ_self m, h⟩, ib O hf h3 e4 er1 ?_⟩
        cases o1 with
        | nx env1 => exact fun σ2 wd2 g3 er2 => ⟨env1, wd2, rfl, (g.trans g2).trans g3, er2, e5⟩
        | ct env1 => exact fun σ2 wd2 g3 er2 => ⟨env1, wd2, rfl, (g.trans g2).trans g3, er2, e5⟩
        | bk env1 =>
          cases e5
          exact fun σ2 wd2 g3 er2 => k σ2 wd2 ((g.trans g2).trans g3) er2
        | rt t1 env1 =>
          cases e5
          exact fun v σ2 wd2 g3 er2 => k v σ2 wd2 ((g.trans g2).trans g3) er2
  · cases hc
theorem so_for {tg : Tg} {it : IX} {body : Ss} (ib : SsOk P body) : SOk P (.for_ tg it body) := by
  intro X sc st env o σ vs ts wd pn D O hf hc he er k
  simp only [chkS] at hc
  split at hc
  · rename_i tx i b pos
    simp only [Bool.and_eq_true] at hc
    obtain ⟨⟨⟨h1, h2⟩, h3⟩, h4⟩ := hc
    simp only [exS, Option.bind_eq_some_iff] at he
    obtain ⟨⟨ds, env1⟩, e1, e2⟩ := he
    dsimp only at e2
    refine ss_of (ps_for (by rw [O.xe]; exact .never) O.calm (si_pi (tg := tx)) (pg_tg (P := P.p) (nd_of O) O.calm O.hN O.sc (fun y _ => hf y) h2) sb_ps (fun x => fold_of h1 _ x)) (all_IX P it O h3 e1 er fun J wd1 g1 er1 wk => ?_)
    let F : PyData → TEnv → Option Out := fun d env => (bindT tg d env).bind fun env' => exSs P.ct P.fuel body env'
    let W : Nat → L2.St → Hp → Prop := fun i σ' H' => ∃ (env' : TEnv) (wd' : Wd), wd'.h = H' ∧ Ge wd1 wd' ∧ ER X.K wd' pn σ' env' vs ts ∧ i ≤ ds.length ∧ forL F (ds.drop i) env' = some o
    refine ⟨fun i m σ' H' => m = ds.length - i ∧ W i σ' H', ⟨ds.length, by simp, env1, wd1, rfl, Ge.refl wd1, er1, Nat.zero_le _, e2⟩, ?_⟩
    rintro i m σ' _ ⟨rfl, env', wd', rfl, g, er', hi, e⟩
    by_cases hlt : i < ds.length
    · right
      obtain ⟨d, hd⟩ : ∃ d, ds[i]? = some d := ⟨_, List.getElem?_eq_getElem hlt⟩
      have hdr : ds.drop i = d :: ds.drop (i + 1) := by
        rw [List.drop_eq_getElem_cons hlt]
        congr 1
        exact Option.some.inj ((List.getElem?_eq_getElem hlt).symm.trans hd)
      rw [hdr] at e
      obtain ⟨o1, eF, e3⟩ := Option.bind_eq_some_iff.mp (show (F d env').bind _ = some o from e)
      obtain ⟨enva, eb, ee⟩ := Option.bind_eq_some_iff.mp (show (bindT tg d env').bind (fun env' => exSs P.ct P.fuel body env') = some o1 from eF)
      refine ⟨wk.go i wd'.h (g.f.trans er'.sub) hlt, W (i + 1), fun σ2 H2 h => ⟨ds.length - (i + 1), by omega, rfl, h⟩, fun xv H' y => ?_⟩
      obtain ⟨H0', gr, rx⟩ := wk.yld i wd'.h0 wd'.h xv H' d g.f er'.sub hd y
      obtain ⟨erG, geG⟩ := er'.grow gr
      obtain ⟨vals, hv⟩ := bindT_vals eb
      refine gTg_ok gr.c rx hv fun us rvs lv => ?_
      have erB := erG.bind eb hv rvs
      refine ib O hf h4 ee erB ?_
      have gg := g.trans geG
      cases o1 with
      | nx env2 => exact fun σ2 wd2 g3 er2 => ⟨env2, wd2, rfl, gg.trans g3, er2, hlt, e3⟩
      | ct env2 => exact fun σ2 wd2 g3 er2 => ⟨env2, wd2, rfl, gg.trans g3, er2, hlt, e3⟩
      | bk env2 =>
        cases e3
        exact fun σ2 wd2 g3 er2 => k σ2 wd2 (g1.trans (gg.trans g3)) er2
      | rt t1 env2 =>
        cases e3
        exact fun v σ2 wd2 g3 er2 => k v σ2 wd2 (g1.trans (gg.trans g3)) er2
    · left
      have ei : i = ds.length := by omega
      subst ei
      rw [List.drop_length] at e
      cases e
      exact ⟨wk.stop _ _ (g.f.trans er'.sub) (Nat.le_refl _), k σ' wd' (g1.trans g) er'⟩
  · cases hc
end Eng
set_option maxRecDepth 100000
set_option maxHeartbeats 4000000
/-! EngR: a loop over an owned list; all statements; defs; a program. -/
namespace Eng
open PySem PySem.Spec PyProof.Rows L2
variable {P : PrgT}

section
variable {K : PySem.W.Frag} {wd : Wd} {pn : Nat → Option V} {σ : L2.St} {env : TEnv} {vs : List V} {ts : List T}
/-- a list that is held is opened: its items are held, its own cell changes no more -/
theorem ER.open {v : V} {tl : List T} (e : ER K wd pn σ env (v :: vs) (.own tl :: ts)) : ∃ a us, v = .ref a ∧ wd.h a = some (.lst us) ∧ us.length = tl.length ∧
    ER K ⟨wd.h0, wd.h, fun x => wd.w x ∧ x ≠ a⟩ pn σ env (us ++ vs) (tl ++ ts) ∧ Ge wd ⟨wd.h0, wd.h, fun x => wd.w x ∧ x ≠ a⟩ := by
  obtain ⟨F, as, f⟩ := e.own
  obtain ⟨bs, cs, r1, r2, d, ea⟩ := RpTs.split (us := [v]) (ts1 := [.own tl]) rfl f.tmp
  subst ea
  obtain ⟨a, us, b3, rfl, ha, rs, na, rfl⟩ := r1.one_inv.own_inv
  refine ⟨a, us, rfl, ha, rs.length, ⟨e.len, e.sub, ⟨F, b3 ++ cs, f.at_, f.no, f.dis, fun i x hx => ⟨⟨(f.mine i x hx).1, fun z => f.dtmp i x hx (by rw [z]; simp)⟩, (f.mine i x hx).2⟩, rs.join r2 fun x hx => d x (List.mem_cons_of_mem _ hx), fun i x hx h => f.dtmp i x hx (List.mem_cons_of_mem _ h), fun x hx => ?_⟩, e.pin⟩, ⟨.refl _, fun x o h _ => h, fun x h => .inl h.1, fun x h => .inl h⟩⟩
  have m := f.mtmp x (List.mem_cons_of_mem _ hx)
  refine ⟨⟨m.1, fun z => ?_⟩, m.2⟩
  rcases List.mem_append.mp hx with q | q
  · exact na (by rw [← z]; exact q)
  · exact d a List.mem_cons_self (by rw [← z]; exact q)
/-- what is held under the first is dropped -/
theorem ER.dropU {v : V} {t : T} {us : List V} {ts1 : List T} (hl : us.length = ts1.length) (e : ER K wd pn σ env (v :: (us ++ vs)) (t :: (ts1 ++ ts))) : ER K wd pn σ env (v :: vs) (t :: ts) := by
  obtain ⟨F, as, f⟩ := e.own
  obtain ⟨bs, cs, r1, r2, d, ea⟩ := RpTs.split (us := [v]) (ts1 := [t]) rfl f.tmp
  subst ea
  obtain ⟨b2, c2, r3, r4, d2, ec⟩ := RpTs.split hl r2
  subst ec
  have mem : ∀ x, x ∈ bs ++ c2 → x ∈ bs ++ (b2 ++ c2) := fun x hx => by
    simp only [List.mem_append] at hx ⊢
    rcases hx with q | q
    · exact .inl q
    · exact .inr (.inr q)
  exact ⟨e.len, e.sub, ⟨F, bs ++ c2, f.at_, f.no, f.dis, f.mine, .cons r1.one_inv r4 fun x hx hy => d x hx (List.mem_append_right _ hy), fun i x hx h => f.dtmp i x hx (mem x h), fun x hx => f.mtmp x (mem x hx)⟩, e.pin⟩
end
theorem so_forO {x s : Nat} {body : Ss} (ib : SsOk P body) : SOk P (.forO x s body) := by
  intro X sc st env o σ vs ts wd pn D O hf hc he er k
  simp only [chkS] at hc
  split at hc
  · rename_i tx n p b pos
    simp only [Bool.and_eq_true] at hc
    obtain ⟨⟨⟨h1, h2⟩, h3⟩, h4⟩ := hc
    simp only [exS] at he
    split at he
    · rename_i tl hs
      obtain ⟨v, hv, er0⟩ := er.take hs
      obtain ⟨a, us, rfl, ha, hl, er1, g1⟩ := er0.open
      refine ss_of (ps_for (by rw [O.xe]; exact .never) O.calm (pi_list se_pe) (pg_tg (P := P.p) (nd_of O) O.calm O.hN O.sc (fun y _ => hf y) h3) sb_ps (fun x => fold_of rfl _ x)) (name_se O (of_decide_eq_true h1) h2 hv ⟨a, rfl, ⟨us, .of ha⟩, ?_⟩)
      let wd1 : Wd := ⟨wd.h0, wd.h, fun x => wd.w x ∧ x ≠ a⟩
      let F : T → TEnv → Option Out := fun t env => (put env x t).bind fun env' => exSs P.ct P.fuel body env'
      let W : Nat → L2.St → Hp → Prop := fun i σ' H' => ∃ (env' : TEnv) (wd' : Wd), wd'.h = H' ∧ Ge wd1 wd' ∧ ER X.K wd' pn σ' env' (us.drop i ++ vs) (tl.drop i ++ ts) ∧ i ≤ tl.length ∧ forL F (tl.drop i) env' = some o
      refine ⟨fun i m σ' H' => m = tl.length - i ∧ W i σ' H', ⟨tl.length, by simp, env.set s none, wd1, rfl, Ge.refl wd1, er1, Nat.zero_le _, he⟩, ?_⟩
      rintro i m σ' _ ⟨rfl, env', wd', rfl, g, er', hi, e⟩
      have hA : wd'.h a = some (.lst us) := g.k a _ ha fun z => z.2 rfl
      by_cases hlt : i < tl.length
      · right
        obtain ⟨t, ht⟩ : ∃ t, tl[i]? = some t := ⟨_, List.getElem?_eq_getElem hlt⟩
        have hlt' : i < us.length := by omega
        obtain ⟨u, hu⟩ : ∃ u, us[i]? = some u := ⟨_, List.getElem?_eq_getElem hlt'⟩
        have hdr : tl.drop i = t :: tl.drop (i + 1) := by
          rw [List.drop_eq_getElem_cons hlt]
          congr 1
          exact Option.some.inj ((List.getElem?_eq_getElem hlt).symm.trans ht)
        have hdu : us.drop i = u :: us.drop (i + 1) := by
          rw [List.drop_eq_getElem_cons hlt']
          congr 1
          exact Option.some.inj ((List.getElem?_eq_getElem hlt').symm.trans hu)
        rw [hdr] at e er'
        rw [hdu] at er'
        obtain ⟨o1, eF, e3⟩ := Option.bind_eq_some_iff.mp (show (F t env').bind _ = some o from e)
        obtain ⟨enva, eb, ee⟩ := Option.bind_eq_some_iff.mp (show (put env' x t).bind (fun env' => exSs P.ct P.fuel body env') = some o1 from eF)
        refine ⟨⟨us, u, .of hA, hu⟩, W (i + 1), fun σ2 H2 h => ⟨tl.length - (i + 1), by omega, rfl, h⟩, fun xv H' y => ?_⟩
        obtain ⟨eH, y⟩ := y
        subst eH
        have ex : u = xv := Option.some.inj (hu.symm.trans (y us (.of hA)))
        subst ex
        have erB := ER.putS (vs := us.drop (i + 1) ++ vs) (ts := tl.drop (i + 1) ++ ts) er' eb
        have hl2 : (us.drop (i + 1)).length = (tl.drop (i + 1)).length := by rw [List.length_drop, List.length_drop, hl]
        show SB X b _ (σ'.set x (some u)) wd'.h
        refine ib O hf h4 ee erB ?_
        cases o1 with
        | nx env2 => exact fun σ2 wd2 g3 er2 => ⟨env2, wd2, rfl, g.trans g3, er2, hlt, e3⟩
        | ct env2 => exact fun σ2 wd2 g3 er2 => ⟨env2, wd2, rfl, g.trans g3, er2, hlt, e3⟩
        | bk env2 =>
          cases e3
          exact fun σ2 wd2 g3 er2 => k σ2 wd2 (g1.trans (g.trans g3)) (er2.dropN hl2)
        | rt t1 env2 =>
          cases e3
          exact fun v σ2 wd2 g3 er2 => k v σ2 wd2 (g1.trans (g.trans g3)) (er2.dropU hl2)
      · left
        have ei : i = tl.length := by omega
        subst ei
        rw [List.drop_length] at e er'
        cases e
        rw [← hl, List.drop_length] at er'
        exact ⟨⟨us, .of hA, by omega⟩, k σ' wd' (g1.trans g) er'⟩
    · cases he
  · cases hc
mutual
theorem all_S (P : PrgT) : ∀ s : S, SOk P s
  | .ex x => so_ex
  | .asg s x => so_asg
  | .par s1 s2 x1 x2 => so_par
  | .aug s o e => so_aug
  | .app s x => so_app
  | .appi s i x => so_appi
  | .set1 s i x => so_set1
  | .set2 s i j x => so_set2
  | .iff t a b => so_iff (all_Ss P a) (all_Ss P b)
  | .iffx t a b => so_iffx (all_Ss P a) (all_Ss P b)
  | .for_ tg it body => so_for (all_Ss P body)
  | .forO x s body => so_forO (all_Ss P body)
  | .whl t body => so_whl (all_Ss P body)
  | .ret x => so_ret
  | .retN => so_retN
  | .brk => so_brk
  | .cnt => so_cnt
  | .pas => so_pas
  | .nev => so_nev
  | .frz s => so_frz
theorem all_Ss (P : PrgT) : ∀ s : Ss, SsOk P s
  | .nil => ss_nil
  | .cons s ss => ss_cons (all_S P s) (all_Ss P ss)
end

/-! ### defs -/
/-- the parameters that were handed on, at the end -/
theorem iosBack_rp {K : PySem.W.Frag} {wd : Wd} {pn : Nat → Option V} {σ : L2.St} {env : TEnv} {us : List V} {ts : List T} {F : Nat → List Addr} {as : List Addr} (f : ERF K wd σ env us ts F as) (hp : ∀ i t, sl env i = some (.pin t) → ∃ v, pn i = some v ∧ σ[i]? = some (some v)) :
    ∀ {ars : List Ar} {vs : List V} {env' : TEnv} {off : Nat} {ios : List T}, env.drop off = env' → (∀ j, pn (off + j) = vs[j]?) → vs.length = ars.length → iosBack ars env' = some ios → ∃ cs, RpTs K wd.h0 wd.h (ioV vs ars) ios cs ∧ ∀ x ∈ cs, ∃ i, off ≤ i ∧ x ∈ F i
  | [], [], env', off, ios, _, _, _, h => by
    cases h
    exact ⟨[], .nil, fun _ h => nomatch h⟩
  | [], _ :: _, _, _, _, _, _, h, _ => nomatch h
  | _ :: _, [], _, _, _, _, _, h, _ => nomatch h
  | .val d :: ars, v :: vs, env', off, ios, hd, hv, hl, h => by
    cases env' with
    | nil => simp [iosBack] at h
    | cons z env' =>
      have h : iosBack ars env' = some ios := h
      obtain ⟨cs, r, c⟩ := iosBack_rp f hp (ars := ars) (vs := vs) (env' := env') (off := off + 1) (by rw [← List.drop_drop, hd]; rfl) (fun j => by rw [show off + 1 + j = off + (j + 1) by omega, hv]; rfl) (Nat.succ.inj hl) h
      exact ⟨cs, r, fun x hx => (c x hx).elim fun i q => ⟨i, by omega, q.2⟩⟩
  | .io t0 :: ars, v :: vs, env', off, ios, hd, hv, hl, h => by
    cases env' with
    | nil => simp [iosBack] at h
    | cons z env' =>
      cases z with
      | none => simp [iosBack] at h
      | some u =>
        cases u with
        | val t => simp [iosBack] at h
        | pin t =>
          simp only [iosBack, Option.map_eq_some_iff] at h
          obtain ⟨ios', h, rfl⟩ := h
          obtain ⟨cs, r, c⟩ := iosBack_rp f hp (ars := ars) (vs := vs) (env' := env') (off := off + 1) (by rw [← List.drop_drop, hd]; rfl) (fun j => by rw [show off + 1 + j = off + (j + 1) by omega, hv]; rfl) (Nat.succ.inj hl) h
          have hs : sl env off = some (.pin t) := by
            unfold sl
            have : env[off]? = some (some (.pin t)) := by
              have q : (env.drop off)[0]? = some (some (.pin t)) := by rw [hd]; rfl
              rw [List.getElem?_drop] at q
              exact q
            rw [this]
            rfl
          obtain ⟨w, hw, hσ⟩ := hp off t hs
          have ew : w = v := by
            have := hv 0
            rw [Nat.add_zero, hw] at this
            exact Option.some.inj this
          subst ew
          obtain ⟨w', hσ', rw'⟩ := f.at_ off _ hs
          rw [hσ] at hσ'
          cases hσ'
          refine ⟨F off ++ cs, .cons rw' r fun x hx hy => ?_, fun x hx => ?_⟩
          · obtain ⟨i, hi, hxi⟩ := c x hy
            exact f.dis off i (by omega) x hx hxi
          · rcases List.mem_append.mp hx with q | q
            · exact ⟨off, Nat.le_refl _, q⟩
            · obtain ⟨i, hi, hxi⟩ := c x q
              exact ⟨i, by omega, hxi⟩
theorem slOf_t (a : Ar) : ∃ u, slOf a = some u ∧ u.t = a.t := by cases a <;> exact ⟨_, rfl, rfl⟩
/-- a def's state at its entry -/
theorem er_start {K : PySem.W.Frag} {H0 H : Hp} {vs : List V} {ars : List Ar} {as : List Addr} {N : List Str} (hs : Same H0 H) (r : RpTs K H0 H vs (ars.map Ar.t) as) (hz : ∀ x ∈ as, H0 x = none) :
    ER K ⟨H0, H, fun x => x ∈ as⟩ (fun i => vs[i]?) (L2.start N vs) (ars.map slOf ++ List.replicate (N.length - ars.length) none) [] [] := by
  have hl : vs.length = ars.length := by rw [r.length, List.length_map]
  obtain ⟨G, g1, g2, g3⟩ := r.fam
  have hsl : ∀ i u, sl (ars.map slOf ++ List.replicate (N.length - ars.length) none) i = some u → ∃ a, ars[i]? = some a ∧ slOf a = some u := fun i u h => by
    unfold sl at h
    by_cases q : i < ars.length
    · rw [List.getElem?_append_left (by rw [List.length_map]; exact q), List.getElem?_map] at h
      obtain ⟨a, ha⟩ : ∃ a, ars[i]? = some a := ⟨_, List.getElem?_eq_getElem q⟩
      rw [ha] at h
      exact ⟨a, ha, h⟩
    · rw [List.getElem?_append_right (by rw [List.length_map]; omega), List.getElem?_replicate] at h
      split at h <;> cases h
  have hst : ∀ (i : Nat) (v : V), vs[i]? = some v → (L2.start N vs)[i]? = some (some v) := fun i v h => by
    obtain ⟨q, _⟩ := List.getElem?_eq_some_iff.mp h
    unfold L2.start
    rw [List.getElem?_append_left (by rw [List.length_map]; exact q), List.getElem?_map, h]
    rfl
  refine ⟨?_, hs, ⟨fun i => if i < ars.length then G i else [], [], fun i u hu => ?_, fun i hi => ?_, fun i j hij x hx hy => ?_, fun i x hx => ?_, RpTs.nil, (fun _ _ _ h => nomatch h), (fun _ h => nomatch h)⟩, fun i t ht => ?_⟩
  · unfold L2.start
    simp [hl]
  · obtain ⟨a, ha, hu⟩ := hsl i u hu
    obtain ⟨q, _⟩ := List.getElem?_eq_some_iff.mp ha
    obtain ⟨v, hv⟩ : ∃ v, vs[i]? = some v := ⟨_, List.getElem?_eq_getElem (by omega)⟩
    refine ⟨v, hst i v hv, ?_⟩
    rw [if_pos q]
    obtain ⟨u', e1, e2⟩ := slOf_t a
    rw [hu] at e1
    cases e1
    rw [e2]
    exact g1 i v _ hv (by rw [List.getElem?_map, ha]; rfl)
  · split
    · rename_i q
      exfalso
      unfold sl at hi
      rw [List.getElem?_append_left (by rw [List.length_map]; exact q), List.getElem?_map, List.getElem?_eq_getElem q] at hi
      obtain ⟨u', e1, e2⟩ := slOf_t ars[i]
      have hi : slOf ars[i] = none := hi
      rw [e1] at hi
      cases hi
    · rfl
  · split at hx
    · split at hy
      · exact g3 i j hij x hx hy
      · cases hy
    · cases hx
  · split at hx
    · exact ⟨g2 i x hx, hz x (g2 i x hx)⟩
    · cases hx
  · obtain ⟨a, ha, hu⟩ := hsl i _ ht
    obtain ⟨q, _⟩ := List.getElem?_eq_some_iff.mp ha
    obtain ⟨v, hv⟩ : ∃ v, vs[i]? = some v := ⟨_, List.getElem?_eq_getElem (by omega)⟩
    exact ⟨v, hv, hst i v hv⟩

/-! ### a program's defs -/
structure Glob where
  free : List Str
  cons : List (Str × Int)
  kws : List (Str × List Str × List Nat)
  fs : List FnD
  fuel : Nat
abbrev Glob.at_ (G : Glob) (N : List Str) (k : Nat) : PrgT := ⟨G.free, G.cons, G.kws, N, callF G.fs G.fuel k, G.fuel⟩
/-- what a def stands for at k levels -/
def spOf (K : PySem.W.Frag) (G : Glob) (k : Nat) (f : FnD) : Sp := fun vs H Q _ => ∃ (ars : List Ar) (t : T) (ios : List T) (H0 : Hp) (as : List Addr), runF (callF G.fs G.fuel k) G.fuel f ars = some (t, ios) ∧ Same H0 H ∧ RpTs K H0 H vs (ars.map Ar.t) as ∧ (∀ x ∈ as, H0 x = none) ∧
  ∀ (wd : Wd) (v : V) (bs cs : List Addr), Ge ⟨H0, H, fun x => x ∈ as⟩ wd → Same wd.h0 wd.h → RpT K wd.h0 wd.h v t bs → RpTs K wd.h0 wd.h (ioV vs ars) ios cs → (∀ x ∈ bs, x ∉ cs) → (∀ x, x ∈ bs ∨ x ∈ cs → wd.w x ∧ wd.h0 x = none) → Q v wd.h
/-- a def of the program, as the head tells it, and checked against its written form -/
structure FnFact (K : PySem.W.Frag) (mg : Str → Option Value) (G : Glob) (f : FnD) (params : Arguments) (body : List Stmt) (scope : Scope) (fa : Addr) (fd : FuncData) : Prop where
  fn : FunD K f.name f.name params body scope [] [] fa fd
  mg : mg f.name = some (.ref fa)
  sc : FnScope f.N f.params scope
  bd : Binds K fd f.params []
  db : (f.name == ("__debug__" : Str)) = false
  kw : ∀ ks, (f.name, ks) ∈ G.kws → KBinds K fd f.params ks.1 (permK ks.1.length ks.2) (permK ks.1.length ks.2)
  ck : ∀ (c : CallT) (fuel : Nat), chkSs ⟨G.free, G.cons, G.kws, f.N, c, fuel⟩ f.body scope body = true
structure Facts (K : PySem.W.Frag) (mg : Str → Option Value) (G : Glob) : Prop where
  fn : ∀ f ∈ G.fs, ∃ params body scope fa fd, FnFact K mg G f params body scope fa fd
  free : ∀ x ∈ G.free, mg x = none
  cons : ∀ x i, (x, i) ∈ G.cons → ∃ t, mg x = some (.int i t)
theorem fnOf_inv : ∀ {fs : List FnD} {x : Str} {f : FnD}, fnOf fs x = some f → f ∈ fs ∧ f.name = x
  | [], _, _, h => nomatch h
  | g :: fs, x, f, h => by
    simp only [fnOf] at h
    split at h
    · rename_i e
      cases h
      exact ⟨List.mem_cons_self, e⟩
    · obtain ⟨a, b⟩ := fnOf_inv h
      exact ⟨List.mem_cons_of_mem _ a, b⟩
theorem hands_of {X : Cx} {G : Glob} {k : Nat} (FF : Facts X.K X.mg G) (oks : ∀ f params body scope fa fd, FnFact X.K X.mg G f params body scope fa fd → FnOk X.prog X.w X.K X.mg X.base CX0 (k + 1) fa fd f.params (spOf X.K G k f)) (hr : Room (k + 1) X.A)
    {x : Str} {ars : List Ar} {t : T} {ios : List T} {ks : Option (List Str × List Nat)} (hk : ∀ l, ks = some l → (x, l) ∈ G.kws) (h : callF G.fs G.fuel (k + 1) x ars = some (t, ios)) : HandsT X x ars t ios ks := by
  obtain ⟨f, e1, e2⟩ := Option.bind_eq_some_iff.mp (show (fnOf G.fs x).bind (fun f => runF (callF G.fs G.fuel k) G.fuel f ars) = some (t, ios) from h)
  obtain ⟨hm, rfl⟩ := fnOf_inv e1
  obtain ⟨params, body, scope, fa, fd, F⟩ := FF.fn f hm
  exact ⟨fa, fd, f.params, spOf X.K G k f, k + 1, F.mg, F.fn.kp, F.bd, oks f params body scope fa fd F, hr, F.db, fun l hl => F.kw l (hk l hl), fun vs H0 H as Q s r z c => ⟨ars, t, ios, H0, as, e2, s, r, z, c⟩⟩
theorem ret_of {K : PySem.W.Frag} {wd wd' : Wd} {vs : List V} {ars : List Ar} {ios : List T} {v : V} {t : T} {σ : L2.St} {env : TEnv} {Q : VK} (hl : vs.length = ars.length) (er : ER K wd' (fun i => vs[i]?) σ env [v] [t]) (hb : iosBack ars env = some ios)
    (g : Ge wd wd') (c : ∀ (wd2 : Wd) (v : V) (bs cs : List Addr), Ge wd wd2 → Same wd2.h0 wd2.h → RpT K wd2.h0 wd2.h v t bs → RpTs K wd2.h0 wd2.h (ioV vs ars) ios cs → (∀ x ∈ bs, x ∉ cs) → (∀ x, x ∈ bs ∨ x ∈ cs → wd2.w x ∧ wd2.h0 x = none) → Q v wd2.h) : Q v wd'.h := by
  obtain ⟨F, as, f⟩ := er.own
  obtain ⟨cs, r, cm⟩ := iosBack_rp f er.pin (off := 0) rfl (fun j => by rw [Nat.zero_add]) hl hb
  refine c wd' v as cs g er.sub f.tmp.one_inv r (fun x hx hy => ?_) fun x hx => ?_
  · obtain ⟨i, _, hi⟩ := cm x hy
    exact f.dtmp i x hi hx
  · rcases hx with q | q
    · exact f.mtmp x q
    · obtain ⟨i, _, hi⟩ := cm x q
      exact f.mine i x hi
/-- every def keeps its promise -/
theorem fn_level {Pg : Program} {w : World} {K : PySem.W.Frag} {mg : Str → Option Value} {base : Heap} {G : Glob} (FF : Facts K mg G) : ∀ (k : Nat) (f : FnD) (params : Arguments) (body : List Stmt) (scope : Scope) (fa : Addr) (fd : FuncData), FnFact K mg G f params body scope fa fd →
    FnOk Pg w K mg base CX0 (k + 1) fa fd f.params (spOf K G k f) := by
  intro k
  induction k with
  | zero =>
    intro f params body scope fa fd F
    refine F.fn.ok F.sc (fun vs H Q E h => ?_) (fun cdv A outer s H vs Q E hr h => ?_)
    · obtain ⟨ars, t, ios, H0, as, e, hs, r, z, c⟩ := h
      unfold runF at e
      split at e
      · rename_i hl
        rw [r.length, List.length_map, hl]
      · cases e
    · obtain ⟨ars, t, ios, H0, as, e, hs, r, z, c⟩ := h
      refine ⟨_, PSs.nox sb_ps, ?_⟩
      unfold runF at e
      split at e
      · rename_i hl
        obtain ⟨o, e1, e2⟩ := Option.bind_eq_some_iff.mp e
        have O : XTk (G.at_ f.N 0) (cxOf CX0 Pg w K mg base f.N f.name scope fa cdv A outer s H E).nox scope :=
          ⟨rfl, F.sc.nd, rfl, rfl, by have := hr.un; show (A.deeper _).units + 65 < _; omega, FF.free, FF.cons, (fun _ _ _ _ h => nomatch h), (fun _ _ _ _ _ _ h => nomatch h), rfl⟩
        refine all_Ss (G.at_ f.N 0) f.body O (fun _ => rfl) (F.ck _ _) e1 (er_start hs r z) ?_
        have hvl : vs.length = ars.length := by rw [r.length, List.length_map]
        cases o with
        | nx env =>
          simp only [Option.map_eq_some_iff] at e2
          obtain ⟨ios', e3, e4⟩ := e2
          cases e4
          exact fun σ wd' g er => ret_of hvl (er.push (v := .non) (d := .none) .non) e3 g c
        | rt t1 env =>
          simp only [Option.map_eq_some_iff] at e2
          obtain ⟨ios', e3, e4⟩ := e2
          cases e4
          exact fun v σ wd' g er => ret_of hvl er e3 g c
        | bk env => cases e2
        | ct env => cases e2
      · cases e
  | succ k ih =>
    intro f params body scope fa fd F
    refine F.fn.ok F.sc (fun vs H Q E h => ?_) (fun cdv A outer s H vs Q E hr h => ?_)
    · obtain ⟨ars, t, ios, H0, as, e, hs, r, z, c⟩ := h
      unfold runF at e
      split at e
      · rename_i hl
        rw [r.length, List.length_map, hl]
      · cases e
    · obtain ⟨ars, t, ios, H0, as, e, hs, r, z, c⟩ := h
      refine ⟨_, PSs.nox sb_ps, ?_⟩
      unfold runF at e
      split at e
      · rename_i hl
        obtain ⟨o, e1, e2⟩ := Option.bind_eq_some_iff.mp e
        let X : Cx := (cxOf CX0 Pg w K mg base f.N f.name scope fa cdv A outer s H E).nox
        have FF' : Facts X.K X.mg G := FF
        have ih' : ∀ f params body scope fa fd, FnFact X.K X.mg G f params body scope fa fd → FnOk X.prog X.w X.K X.mg X.base CX0 (k + 1) fa fd f.params (spOf X.K G k f) := ih
        have O : XTk (G.at_ f.N (k + 1)) X scope :=
          ⟨rfl, F.sc.nd, rfl, rfl, by have := hr.un; show (A.deeper _).units + 65 < _; omega, FF.free, FF.cons, fun x ars t ios h => hands_of FF' ih' hr (fun _ z => nomatch z) h, fun x ks m ars t ios h => hands_of FF' ih' hr (fun l z => by cases z; exact m) h, rfl⟩
        refine all_Ss (G.at_ f.N (k + 1)) f.body O (fun _ => rfl) (F.ck _ _) e1 (er_start hs r z) ?_
        have hvl : vs.length = ars.length := by rw [r.length, List.length_map]
        cases o with
        | nx env =>
          simp only [Option.map_eq_some_iff] at e2
          obtain ⟨ios', e3, e4⟩ := e2
          cases e4
          exact fun σ wd' g er => ret_of hvl (er.push (v := .non) (d := .none) .non) e3 g c
        | rt t1 env =>
          simp only [Option.map_eq_some_iff] at e2
          obtain ⟨ios', e3, e4⟩ := e2
          cases e4
          exact fun v σ wd' g er => ret_of hvl er e3 g c
        | bk env => cases e2
        | ct env => cases e2
      · cases e
end Eng
set_option maxRecDepth 100000
set_option maxHeartbeats 4000000
/-! EngS: what the head's text needs: calls by keywords, the law's end. -/
namespace Eng
open PySem PySem.Spec PyProof.Rows L2

def kwOf (l : List (Str × List Str × List Nat)) (x : Str) : List (List Str × List Nat) := (l.filter fun p => decide (p.1 = x)).map (·.2)
theorem kwOf_mem {l : List (Str × List Str × List Nat)} {x : Str} {ks : List Str × List Nat} (h : (x, ks) ∈ l) : ks ∈ kwOf l x := by
  unfold kwOf
  exact List.mem_map.mpr ⟨(x, ks), List.mem_filter.mpr ⟨h, decide_eq_true rfl⟩, rfl⟩
theorem nokw_of {l : List (Str × List Str × List Nat)} (x : Str) (h : kwOf l x = []) (ks : List Str × List Nat) : (x, ks) ∉ l := fun m => by
  have := kwOf_mem m
  rw [h] at this
  cases this
theorem Vals.perm {vs : List V} {us : List Value} (r : Vals vs us) : ∀ (pm : List Nat), Vals (permL pm vs) (permL pm us)
  | [] => .nil
  | i :: pm => by
    have ih := Vals.perm r pm
    unfold permL at ih ⊢
    rw [List.filterMap_cons, List.filterMap_cons]
    cases q : vs[i]? with
    | none =>
      have : us[i]? = none := by
        rw [List.getElem?_eq_none_iff] at q ⊢
        rw [← r.length]
        exact q
      rw [this]
      exact ih
    | some v =>
      obtain ⟨u, hu, ru⟩ := r.get q
      rw [hu]
      exact .cons ru ih
/-- a call by keywords alone, every parameter named -/
theorem kb_of {K : PySem.W.Frag} {x : Str} {params : Arguments} {body : List Stmt} {scope : Scope} {a : Addr} {fd : FuncData} {ps ks : List Str} {pm : List Nat} (F : FunD K x x params body scope [] [] a fd) (hp : ps ≠ [])
    (h : ∀ (kV doc pm' : Value) (an : Option Addr) (cdv ct : Value) (ws : List Value), ws.length = ks.length → bindArgs (PySem.W.fnOf x x params body scope .none kV doc pm' an cdv ct) ⟨[], ks.zip ws⟩ = pure (ps.zip (permL pm ws))) :
    KBinds K fd ps ks (permK ks.length pm) (permK ks.length pm) where
  to := fun s us ws X hl => by
    have p0 : ps.length ≠ 0 := fun z => hp (List.length_eq_zero_iff.mp z)
    cases us with
    | cons u us => exact absurd hl.symm p0
    | nil =>
      have hl : (if ws.length = ks.length then permL pm ws else []).length = ps.length := hl
      by_cases q : ws.length = ks.length
      · show BindsTo s fd ⟨[], ks.zip ws⟩ (ps.zip (if ws.length = ks.length then permL pm ws else []))
        rw [if_pos q]
        obtain ⟨oc, od, dV, kV, doc, pm', an, cdv, ct, osl, rfl, lk, hcd, hD, hK⟩ := F.ex
        rcases hD with ⟨_, rfl⟩ | ⟨e, _⟩
        · exact .of_eq (h kV doc pm' an cdv ct ws q)
        · exact absurd rfl e
      · rw [if_neg q] at hl
        exact absurd hl.symm p0
  rel := fun {vs us zs ws} r rz => by
    cases r with
    | nil =>
      show Vals (if zs.length = ks.length then permL pm zs else []) (if ws.length = ks.length then permL pm ws else [])
      rw [rz.length]
      split
      · exact Vals.perm rz pm
      · exact .nil
    | cons a b => exact .nil
/-- the law's end -/
theorem law_sp {K : PySem.W.Frag} {G : Glob} {k : Nat} {f : FnD} {H : Hp} {a : Addr} {ns : List Int} {E : XK} (hS : SqL K H a (ns.map V.int)) (h : runF (callF G.fs G.fuel k) G.fuel f [.val (frnD (ns.map .int))] = some (.fz (.bool true), [])) : spOf K G k f [.ref a] H (fun v _ => v = .bl true) E := by
  have rr : ∀ ns : List Int, RpAll K H (ns.map V.int) (ns.map PyData.int) := fun ns => by
    induction ns with
    | nil => exact .nil
    | cons n ns ih => exact .cons (.int _) ih
  refine ⟨_, _, _, H, [], h, .refl H, RpTs.one (.fz (.frn hS (rr ns))), (fun _ h => nomatch h), fun wd v bs cs g s r rc dj mine => ?_⟩
  have := r.fz_inv.1
  cases this
  rfl
end Eng
set_option maxRecDepth 100000
set_option maxHeartbeats 4000000
/-! LibA: the shared defs, what they compute. -/
namespace Lib
open PySem Eng
def d_is_whole : FnD := ⟨"is_whole", ["value"], ["value"], (.cons (.ret (.fr (.bop true (.cons (.isi (.var 0) [.int]) (.cons (.not (.isi (.var 0) [.bool])) .nil))))) .nil)⟩
def d_is_count : FnD := ⟨"is_count", ["value"], ["value"], (.cons (.ret (.fr (.bop true (.cons (.call "is_whole" (.cons (.var 0) .nil)) (.cons (.cmp .GtE (.var 0) (.int 0)) .nil))))) .nil)⟩
def d_is_below : FnD := ⟨"is_below", ["value", "bound"], ["value", "bound"], (.cons (.ret (.fr (.bop true (.cons (.call "is_count" (.cons (.var 0) .nil)) (.cons (.cmp .Lt (.var 0) (.var 1)) .nil))))) .nil)⟩
def d_is_size : FnD := ⟨"is_size", ["value"], ["value"], (.cons (.ret (.fr (.bop true (.cons (.call "is_whole" (.cons (.var 0) .nil)) (.cons (.chn .LtE .LtE (.int 1) (.var 0) (.con "LARGEST" 16)) .nil))))) .nil)⟩
def d_are_unlike : FnD := ⟨"are_unlike", ["values"], ["values"], (.cons (.ret (.fr (.cmp .Eq (.lenset (.var 0)) (.blt .len (.cons (.var 0) .nil))))) .nil)⟩
def d_is_row_of_jobs : FnD := ⟨"is_row_of_jobs", ["size", "value"], ["size", "value", "job"], (.cons (.iff (.bop false (.cons (.not (.isi (.var 1) [.list])) (.cons (.cmp .NotEq (.lcc (.var 2) (.one 2) (.seq (.var 1)) (.not (.call "is_below" (.cons (.var 2) (.cons (.var 0) .nil))))) (.lst .nil)) .nil))) (.cons (.ret (.fr (.bl false))) .nil) .nil) (.cons (.ret (.fr (.call "are_unlike" (.cons (.var 1) .nil)))) .nil))⟩
def d_are_rows_of : FnD := ⟨"are_rows_of", ["size", "days", "value"], ["size", "days", "value", "row", "day"], (.cons (.iff (.bop false (.cons (.not (.isi (.var 2) [.list])) (.cons (.cmp .Gt (.blt .len (.cons (.var 2) .nil)) (.var 0)) .nil))) (.cons (.ret (.fr (.bl false))) .nil) .nil) (.cons (.iff (.cmp .NotEq (.lcc (.var 3) (.one 3) (.seq (.var 2)) (.bop false (.cons (.not (.call "is_row_of_jobs" (.cons (.var 0) (.cons (.var 3) .nil)))) (.cons (.cmp .NotEq (.blt .len (.cons (.var 3) .nil)) (.var 1)) .nil)))) (.lst .nil)) (.cons (.ret (.fr (.bl false))) .nil) .nil) (.cons (.ret (.fr (.cmp .Eq (.lcc (.var 4) (.one 4) (.rng1 (.var 1)) (.not (.call "are_unlike" (.cons (.lc (.idx (.var 3) (.var 4)) (.one 3) (.seq (.var 2))) .nil)))) (.lst .nil)))) .nil)))⟩
def d_is_rota : FnD := ⟨"is_rota", ["value"], ["value"], (.cons (.iff (.bop false (.cons (.not (.isi (.var 0) [.list])) (.cons (.not (.call "is_size" (.cons (.blt .len (.cons (.var 0) .nil)) .nil))) .nil))) (.cons (.ret (.fr (.bl false))) .nil) .nil) (.cons (.ret (.fr (.call "are_rows_of" (.cons (.blt .len (.cons (.var 0) .nil)) (.cons (.blt .len (.cons (.var 0) .nil)) (.cons (.var 0) .nil)))))) .nil))⟩
def d_check_rota : FnD := ⟨"check_rota", ["rota"], ["rota"], (.cons (.iff (.not (.call "is_rota" (.cons (.var 0) .nil))) (.cons .nev .nil) .nil) .nil)⟩
def d_by_days : FnD := ⟨"by_days", ["rota"], ["rota", "day", "row"], (.cons (.ex (.fr (.call "check_rota" (.cons (.var 0) .nil)))) (.cons (.ret (.cmp (.cmp (.fr (.idx (.var 2) (.var 1))) (.one 2) (.fz (.seq (.var 0)))) (.one 1) (.fz (.rng1 (.blt .len (.cons (.var 0) .nil)))))) .nil))⟩
def d_by_jobs : FnD := ⟨"by_jobs", ["rota"], ["rota", "size", "people", "person", "row", "job", "day"], (.cons (.ex (.fr (.call "check_rota" (.cons (.var 0) .nil)))) (.cons (.asg 1 (.fr (.blt .len (.cons (.var 0) .nil)))) (.cons (.asg 2 (.cmp (.rep (.int 0) (.var 1)) (.one 5) (.fz (.rng1 (.var 1))))) (.cons (.for_ (.two 3 4) (.fz (.enm (.var 0))) (.cons (.for_ (.two 6 5) (.fz (.enm (.var 4))) (.cons (.set2 2 (.var 5) (.var 6) (.fr (.var 3))) .nil)) .nil)) (.cons (.ret (.mv 2)) .nil)))))⟩
def d_day_books : FnD := ⟨"day_books", ["rota"], ["rota", "row", "job"], (.cons (.ex (.fr (.call "check_rota" (.cons (.var 0) .nil)))) (.cons (.ret (.cmp (.cmp (.fr (.index (.var 1) (.var 2))) (.one 2) (.fz (.rng1 (.blt .len (.cons (.var 0) .nil))))) (.one 1) (.fz (.seq (.var 0))))) .nil))⟩
def d_plain_rota : FnD := ⟨"plain_rota", ["size"], ["size", "person", "day"], (.cons (.iff (.not (.call "is_size" (.cons (.var 0) .nil))) (.cons .nev .nil) .nil) (.cons (.ret (.cmp (.cmp (.fr (.bin .Mod (.bin .Add (.var 1) (.var 2)) (.var 0))) (.one 2) (.fz (.rng1 (.var 0)))) (.one 1) (.fz (.rng1 (.var 0))))) .nil))⟩
def w_hash : FnD := ⟨"_law_hash", ["seed", "index"], ["seed", "index", "mixed"], (.cons (.asg 2 (.fr (.bin .Mod (.blt .int (.cons (.bin .Add (.bin .Add (.bin .Add (.bin .Mult (.var 0) (.int 1140671)) (.bin .Mult (.bin .Mult (.int 27644437) (.var 1)) (.var 1))) (.bin .Mult (.int 131) (.var 1))) (.int 19)) .nil)) (.int 2147483629)))) (.cons (.asg 2 (.fr (.bin .Mod (.blt .int (.cons (.bin .Add (.bin .Add (.bin .Mult (.var 2) (.var 2)) (.bin .Mult (.int 62089) (.var 1))) (.int 32416187)) .nil)) (.int 2147483587)))) (.cons (.ret (.fr (.bin .Mod (.blt .int (.cons (.bin .Mult (.var 2) (.int 48271)) .nil)) (.int 2147483647)))) .nil)))⟩
def w_random : FnD := ⟨"_law_random", ["generator", "bound"], ["generator", "bound", "drawn", "turn"], (.cons (.iff (.cmp .Gt (.idx (.var 0) (.int 0)) (.int 0)) (.cons (.asg 2 (.sc (.bin .Mod (.blt .int (.cons (.idx (.var 0) (.int 0)) .nil)) (.var 1)))) (.cons (.set1 0 (.int 0) (.sc (.bin .FloorDiv (.idx (.var 0) (.int 0)) (.var 1)))) (.cons (.ret (.fr (.var 2))) .nil))) .nil) (.cons (.asg 2 (.fr (.int 0))) (.cons (.for_ (.one 3) (.fz (.rng1 (.bin .Add (.int 1) (.bin .FloorDiv (.bits (.var 1)) (.int 30))))) (.cons (.set1 0 (.int 2) (.sc (.bin .Add (.idx (.var 0) (.int 2)) (.int 1)))) (.cons (.asg 2 (.sc (.bin .Add (.bin .Mult (.var 2) (.int 2147483587)) (.call "_law_hash" (.cons (.idx (.var 0) (.int 1)) (.cons (.idx (.var 0) (.int 2)) .nil)))))) (.cons (.frz 2) .nil)))) (.cons (.ret (.fr (.bin .Mod (.blt .int (.cons (.var 2) .nil)) (.var 1)))) .nil))))⟩
def w_cell : FnD := ⟨"_law_cell", ["script", "index"], ["script", "index"], (.cons (.iff (.cmp .Lt (.var 1) (.blt .len (.cons (.var 0) .nil))) (.cons (.ret (.fr (.idx (.var 0) (.var 1)))) .nil) .nil) (.cons (.ret (.fr (.bin .Mod (.blt .sum (.cons (.slc (.var 0) .omt (.int 1)) .nil)) (.int 1000003)))) .nil))⟩
def w_generator : FnD := ⟨"_law_generator", ["script", "index"], ["script", "index", "seed"], (.cons (.asg 2 (.fr (.call "_law_cell" (.cons (.var 0) (.cons (.var 1) .nil))))) (.cons (.frz 2) (.cons (.ret (.lst (.cons (.fr (.bin .Mod (.blt .int (.cons (.blt .max (.cons (.bin .Sub (.var 2) (.bin .Pow (.int 10) (.int 18))) (.cons (.int 0) .nil))) .nil)) (.bin .Pow (.bin .Pow (.int 10) (.int 60)) (.int 10)))) (.cons (.fr (.bin .Mod (.blt .int (.cons (.var 2) .nil)) (.int 2147483647))) (.cons (.fr (.bin .Mult (.int 1000) (.var 1))) .nil))))) .nil)))⟩
def w_drawn_order : FnD := ⟨"_law_drawn_order", ["generator", "things"], ["generator", "things", "left", "found"], (.cons (.par 2 3 (.listof (.blt .list (.cons (.var 1) .nil))) (.lst .nil)) (.cons (.whl (.cmp .NotEq (.var 2) (.lst .nil)) (.cons (.app 3 (.pop 2 (.call "_law_random" (.io 0 (.val (.sc (.blt .len (.cons (.var 2) .nil))) .nil))))) .nil)) (.cons (.ret (.mv 3)) .nil)))⟩
def w_exact : FnD := ⟨"_law_exact", ["told", "due"], ["told", "due", "at", "part"], (.cons (.iff (.isi (.var 1) [.list, .tuple]) (.cons (.iff (.bop false (.cons (.cmp .NotEq (.isi (.var 0) [.list]) (.isi (.var 1) [.list])) (.cons (.cmp .NotEq (.isi (.var 0) [.tuple]) (.isi (.var 1) [.tuple])) .nil))) (.cons (.ret (.fr (.bl false))) .nil) .nil) (.cons (.ret (.fr (.bop true (.cons (.cmp .Eq (.blt .len (.cons (.var 0) .nil)) (.blt .len (.cons (.var 1) .nil))) (.cons (.blt .all (.cons (.lc (.call "_law_exact" (.cons (.idx (.var 0) (.var 2)) (.cons (.var 3) .nil))) (.two 2 3) (.enm (.var 1))) .nil)) .nil))))) .nil)) .nil) (.cons (.iff (.isi (.var 1) [.str]) (.cons (.ret (.fr (.bop true (.cons (.isi (.var 0) [.str]) (.cons (.cmp .Eq (.var 0) (.var 1)) .nil))))) .nil) .nil) (.cons (.iff (.isi (.var 1) [.bool]) (.cons (.ret (.fr (.bop true (.cons (.isi (.var 0) [.bool]) (.cons (.cmp .Eq (.var 0) (.var 1)) .nil))))) .nil) .nil) (.cons (.iff (.isi (.var 1) [.int]) (.cons (.ret (.fr (.bop true (.cons (.isi (.var 0) [.int]) (.cons (.not (.isi (.var 0) [.bool])) (.cons (.cmp .Eq (.var 0) (.var 1)) .nil)))))) .nil) .nil) (.cons (.ret (.fr (.bop true (.cons (.cmp .Is (.var 0) .non) (.cons (.cmp .Is (.var 1) .non) .nil))))) .nil)))))⟩
def w_copied : FnD := ⟨"_law_copied", ["thing"], ["thing", "part"], (.cons (.iff (.isi (.var 0) [.list]) (.cons (.ret (.cmp (.call "_law_copied" (.val (.fr (.var 1)) .nil)) (.one 1) (.fz (.seq (.var 0))))) .nil) .nil) (.cons (.ret (.fr (.ifx (.isi (.var 0) [.tuple]) (.blt .tuple (.cons (.lc (.call "_law_copied" (.cons (.var 1) .nil)) (.one 1) (.seq (.var 0))) .nil)) (.var 0)))) .nil))⟩
def w_rows_switched : FnD := ⟨"_law_rows_switched", ["generator", "rows"], ["generator", "rows", "size", "start", "one", "two", "first", "second", "places", "place", "at", "job", "row"], (.cons (.asg 2 (.fr (.blt .len (.cons (.var 1) .nil)))) (.cons (.par 6 7 (.call "_law_random" (.io 0 (.val (.fr (.var 2)) .nil))) (.call "_law_random" (.io 0 (.val (.fr (.var 2)) .nil)))) (.cons (.frz 6) (.cons (.frz 7) (.cons (.iff (.cmp .Eq (.var 6) (.var 7)) (.cons (.ret (.fr (.var 1))) .nil) .nil) (.cons (.asg 3 (.call "_law_random" (.io 0 (.val (.fr (.var 2)) .nil)))) (.cons (.frz 3) (.cons (.par 8 9 (.lst (.cons (.fr (.var 3)) .nil)) (.fr (.index (.idx (.var 1) (.var 6)) (.idx (.idx (.var 1) (.var 7)) (.var 3))))) (.cons (.whl (.cmp .NotEq (.var 9) (.var 3)) (.cons (.app 8 (.fr (.var 9))) (.cons (.asg 9 (.fr (.index (.idx (.var 1) (.var 6)) (.idx (.idx (.var 1) (.var 7)) (.var 9))))) .nil))) (.cons (.frz 8) (.cons (.asg 4 (.fr (.lc (.ifx (.cmp .In (.var 10) (.var 8)) (.idx (.idx (.var 1) (.var 7)) (.var 10)) (.var 11)) (.two 10 11) (.enm (.idx (.var 1) (.var 6)))))) (.cons (.asg 5 (.fr (.lc (.ifx (.cmp .In (.var 10) (.var 8)) (.idx (.idx (.var 1) (.var 6)) (.var 10)) (.var 11)) (.two 10 11) (.enm (.idx (.var 1) (.var 7)))))) (.cons (.ret (.cmp (.fr (.ifx (.cmp .Eq (.var 10) (.var 6)) (.var 4) (.ifx (.cmp .Eq (.var 10) (.var 7)) (.var 5) (.var 12)))) (.two 10 12) (.fz (.enm (.var 1))))) .nil)))))))))))))⟩
def w_turned_rows : FnD := ⟨"_law_turned_rows", ["rows"], ["rows", "at", "row"], (.cons (.ret (.cmp (.cmp (.fr (.idx (.var 2) (.var 1))) (.one 2) (.fz (.seq (.var 0)))) (.one 1) (.fz (.rng1 (.blt .len (.cons (.var 0) .nil)))))) .nil)⟩
def w_rota : FnD := ⟨"_law_rota", ["generator", "size"], ["generator", "size", "jobs", "rows", "turn", "people", "days", "person", "day"], (.cons (.par 5 6 (.call "_law_drawn_order" (.io 0 (.val (.fr (.lrng (.var 1))) .nil))) (.call "_law_drawn_order" (.io 0 (.val (.fr (.lrng (.var 1))) .nil)))) (.cons (.frz 5) (.cons (.frz 6) (.cons (.asg 2 (.call "_law_drawn_order" (.io 0 (.val (.fr (.lrng (.var 1))) .nil)))) (.cons (.frz 2) (.cons (.asg 3 (.fr (.lc (.lc (.idx (.var 2) (.bin .Mod (.blt .int (.cons (.bin .Add (.var 7) (.var 8)) .nil)) (.var 1))) (.one 8) (.seq (.var 6))) (.one 7) (.seq (.var 5))))) (.cons (.for_ (.one 4) (.rng (.call "_law_random" (.io 0 (.val (.fr (.int 8)) .nil)))) (.cons (.asg 3 (.call "_law_turned_rows" (.val (.call "_law_rows_switched" (.io 0 (.val (.fr (.var 3)) .nil))) .nil))) (.cons (.frz 3) .nil))) (.cons (.ret (.fr (.var 3))) .nil))))))))⟩
variable {fs : List FnD} {fuel k : Nat}
theorem call_of {x : Str} {f : FnD} {as : List Ar} {r : Option (T × List T)} (h : fnOf fs x = some f) (e : runF (callF fs fuel k) fuel f as = r) : callF fs fuel (k + 1) x as = r := by
  show (fnOf fs x).bind _ = r
  rw [h]
  exact e
theorem cd_of {c : CallT} {f : Str} {ds : List PyData} {t : T} (h : c f (ds.map Ar.val) = some (t, [])) : cD c f ds = some t.data := by
  unfold cD
  rw [h]
/-! one operation -/
theorem truth_bool (b : Bool) : truth (.bool b) = some b := rfl
theorem truth_int (i : Int) : truth (.int i) = some (i != 0) := rfl
theorem truth_none : truth .none = some false := rfl
theorem truth_list (xs : List PyData) : truth (.list xs) = some (!xs.isEmpty) := rfl
theorem len_list (xs : List PyData) : bltV .len [.list xs] = some (.int xs.length) := rfl
theorem len_frn (xs : List PyData) : bltV .len [frnD xs] = some (.int xs.length) := rfl
theorem int_int (i : Int) : bltV .int [.int i] = some (.int i) := rfl
theorem list_list (xs : List PyData) : bltV .list [.list xs] = some (.list xs) := rfl
theorem max_int (i j : Int) : bltV .max [.int i, .int j] = some (.int (if j > i then j else i)) := rfl
theorem cmp_lt (i j : Int) : cmpV .Lt (.int i) (.int j) = some (.bool (decide (i < j))) := rfl
theorem cmp_le (i j : Int) : cmpV .LtE (.int i) (.int j) = some (.bool (decide (i ≤ j))) := rfl
theorem cmp_gt (i j : Int) : cmpV .Gt (.int i) (.int j) = some (.bool (decide (j < i))) := rfl
theorem cmp_ge (i j : Int) : cmpV .GtE (.int i) (.int j) = some (.bool (decide (j ≤ i))) := rfl
theorem add_int (i j : Int) : binV .Add (.int i) (.int j) = some (.int (i + j)) := rfl
theorem sub_int (i j : Int) : binV .Sub (.int i) (.int j) = some (.int (i - j)) := rfl
theorem mod_int {i j : Int} (h : 0 < j) : binV .Mod (.int i) (.int j) = some (.int (i % j)) := if_pos h
theorem mul_int {i j : Int} (h : i.natAbs.log2 + j.natAbs.log2 < 1000000) : binV .Mult (.int i) (.int j) = some (.int (i * j)) := if_pos h
theorem isi_int (i : Int) (ts : List Ty) : isTys (.int i) ts = some (ts.any (isTy (.int i))) := rfl
theorem isi_list (i : List PyData) (ts : List Ty) : isTys (.list i) ts = some (ts.any (isTy (.list i))) := rfl
theorem isi_none (ts : List Ty) : isTys .none ts = some (ts.any (isTy .none)) := rfl
theorem eq_int (i j : Int) : cmpV .Eq (.int i) (.int j) = some (.bool (i == j)) := rfl
theorem ne_int (i j : Int) : cmpV .NotEq (.int i) (.int j) = some (.bool (!(i == j))) := rfl
theorem eq_bool (i j : Bool) : cmpV .Eq (.bool i) (.bool j) = some (.bool (i == j)) := rfl
theorem ne_bool (i j : Bool) : cmpV .NotEq (.bool i) (.bool j) = some (.bool (!(i == j))) := rfl
theorem eq_nil : cmpV .Eq (.list []) (.list []) = some (.bool true) := rfl
theorem ne_nil : cmpV .NotEq (.list []) (.list []) = some (.bool false) := rfl
theorem nd1 (s : Nat) : ([s] : List Nat).Nodup := by simp
local macro_rules | `(tactic| walk_at "ev") => `(tactic| try simp -implicitDefEqProofs only [runF, Nat.zero_le, nd1, exSs, exS, evX, evXs, evAs, itX, evV, evVs, evBop, itV, look, sl, put, puts, fEnv, dEnv, fSl, dSl, Sl.t, Sl.put, T.data, T.datas, scal, truth_bool, truth_int, truth_none, truth_list, len_list, len_frn, int_int, list_list, max_int, cmp_lt, cmp_le, cmp_gt, cmp_ge, add_int, sub_int, isi_int, isi_list, isi_none, eq_int, ne_int, eq_bool, ne_bool, eq_nil, ne_nil, partE, partV, iosBack, slOf, bindT, bindD, clr, tgIx, arOf, iosOf, back, ownAt, List.map_cons, List.map_nil, List.length_cons, List.length_nil, List.getElem?_cons_zero, List.getElem?_cons_succ, List.getElem?_nil, List.cons_append, List.nil_append, List.append_nil, List.replicate, Option.join_some, Option.join_none, Option.bind_some, Option.bind_none, Option.map_some, Option.map_none, List.set_cons_zero, List.set_cons_succ, if_true, ite_true, ite_false, Nat.sub_self, List.any_cons, List.any_nil, isTy, Bool.or_false, Bool.false_or, Bool.or_true, Bool.true_or, Bool.not_true, Bool.not_false, beq_self_eq_true, Option.isSome_some, Nat.reduceAdd, Nat.reduceSub, Nat.reduceEqDiff, Bool.false_eq_true, reduceIte, Bool.and_self, Bool.true_and, Bool.and_true, Bool.false_and, Bool.and_false, Bool.true_eq_false, decide_true, decide_false, Bool.true_beq, Bool.false_beq])
theorem is_whole (h : fnOf fs "is_whole" = some d_is_whole) (i : Int) : callF fs fuel (k + 1) "is_whole" [.val (.int i)] = some (.fz (.bool true), []) := call_of h rfl
theorem is_count (h : fnOf fs "is_whole" = some d_is_whole) (h2 : fnOf fs "is_count" = some d_is_count) (i : Int) : callF fs fuel (k + 2) "is_count" [.val (.int i)] = some (.fz (.bool (decide (0 ≤ i))), []) := by
  refine call_of h2 ?_
  have e := cd_of (c := callF fs fuel (k + 1)) (ds := [.int i]) (is_whole h i)
  unfold d_is_count
  walk_at "ev"
  rw [e]
  rfl
theorem is_below (h : fnOf fs "is_whole" = some d_is_whole) (h2 : fnOf fs "is_count" = some d_is_count) (h3 : fnOf fs "is_below" = some d_is_below) (i n : Int) : callF fs fuel (k + 3) "is_below" [.val (.int i), .val (.int n)] = some (.fz (.bool (decide (0 ≤ i) && decide (i < n))), []) := by
  refine call_of h3 ?_
  have e := cd_of (c := callF fs fuel (k + 2)) (ds := [.int i]) (is_count h h2 i)
  unfold d_is_below
  walk_at "ev"
  rw [e]
  cases q : decide (0 ≤ i) <;> rfl
end Lib
set_option maxRecDepth 100000
set_option maxHeartbeats 4000000
/-! LibB: data of ints, rows, tables; comprehensions over them. -/
namespace Lib
open PySem Eng
abbrev PD := PyData
def Dp (n : Nat) (d : PD) : Prop := d.canLay0 = true ∧ d.depth ≤ n
theorem dp_int (i : Int) : Dp 0 (.int i) := ⟨rfl, Nat.le_refl _⟩
theorem dp_bool (i : Bool) : Dp 0 (.bool i) := ⟨rfl, Nat.le_refl _⟩
theorem dp_none : Dp 0 .none := ⟨rfl, Nat.le_refl _⟩
theorem Dp.mono {n m : Nat} {d : PD} (h : Dp n d) (l : n ≤ m) : Dp m d := ⟨h.1, Nat.le_trans h.2 l⟩
theorem dp_all {n : Nat} : ∀ {xs : List PD}, (∀ x ∈ xs, Dp n x) → PyData.canLayAll0 xs = true ∧ PyData.depthAll xs ≤ n
  | [], _ => ⟨rfl, Nat.zero_le _⟩
  | x :: xs, h => by
    obtain ⟨a, b⟩ := dp_all (xs := xs) fun y hy => h y (List.mem_cons_of_mem _ hy)
    obtain ⟨c, d⟩ := h x List.mem_cons_self
    refine ⟨?_, ?_⟩
    · simp only [PyData.canLayAll0, a, c, Bool.and_self]
    · simp only [PyData.depthAll]
      omega
theorem dp_list {n : Nat} {xs : List PD} (h : ∀ x ∈ xs, Dp n x) : Dp (n + 1) (.list xs) := by
  obtain ⟨a, b⟩ := dp_all h
  refine ⟨?_, ?_⟩
  · simp only [PyData.canLay0]
    exact a
  · simp only [PyData.depth]
    omega
theorem shp_of {n : Nat} {d : PD} (h : Dp n d) (l : n ≤ 64) : shp d = true := Bool.and_eq_true_iff.mpr ⟨h.1, decide_eq_true (Nat.le_trans h.2 l)⟩
theorem eqv_self {n : Nat} {d : PD} (h : Dp n d) : PyData.eqv d d = true := PySem.SeqAt.eqv_refl d h.1
theorem eqv_nil (xs : List PD) : PyData.eqv (.list xs) (.list []) = xs.isEmpty := by
  cases xs <;> rfl
theorem shp_nil : shp (.list []) = true := rfl
theorem compD_none {f : PD → Option (Option PD)} : ∀ {xs : List PD}, (∀ x ∈ xs, f x = some none) → compD f xs = some []
  | [], _ => rfl
  | x :: xs, h => by
    simp only [compD, h x List.mem_cons_self, compD_none fun y hy => h y (List.mem_cons_of_mem _ hy)]
theorem compD_map {f : PD → Option (Option PD)} {g : PD → PD} : ∀ {xs : List PD}, (∀ x ∈ xs, f x = some (some (g x))) → compD f xs = some (xs.map g)
  | [], _ => rfl
  | x :: xs, h => by
    simp only [compD, h x List.mem_cons_self, compD_map fun y hy => h y (List.mem_cons_of_mem _ hy), List.map_cons]
theorem compD_rng {α : Type} {f : PD → Option (Option PD)} {e : α → PD} {g : α → PD} : ∀ {xs : List α}, (∀ x ∈ xs, f (e x) = some (some (g x))) → compD f (xs.map e) = some (xs.map g)
  | [], _ => rfl
  | x :: xs, h => by
    simp only [List.map_cons, compD, h x List.mem_cons_self, compD_rng fun y hy => h y (List.mem_cons_of_mem _ hy)]
theorem cmpX_rng {α : Type} {f : PD → TEnv → Option (T × TEnv)} {e : α → PD} {g : α → T} {is : List Nat} {env : TEnv} : ∀ {xs : List α}, (∀ x ∈ xs, ∃ env1, f (e x) env = some (g x, env1) ∧ clr is env1 = some env) → cmpX f is (xs.map e) env = some (xs.map g, env)
  | [], _ => rfl
  | x :: xs, h => by
    obtain ⟨env1, a, b⟩ := h x List.mem_cons_self
    simp only [List.map_cons, cmpX, a, b, Option.bind_some, cmpX_rng fun y hy => h y (List.mem_cons_of_mem _ hy), Option.map_some]
/-- a row of counts -/
def row (n : Nat) (f : Nat → Nat) : List PD := (List.range n).map fun d => .int (f d)
def mat (n m : Nat) (f : Nat → Nat → Nat) : List PD := (List.range n).map fun p => .list (row m (f p))
theorem row_len (n : Nat) (f : Nat → Nat) : (row n f).length = n := by simp [row]
theorem mat_len (n m : Nat) (f : Nat → Nat → Nat) : (mat n m f).length = n := by simp [mat]
theorem ixN_lt {n d : Nat} (h : d < n) : L2.ixN n (d : Int) = some d := by
  unfold L2.ixN
  rw [if_pos (by omega), if_pos (by omega), Int.toNat_natCast]
theorem atI_rng {α : Type} {n d : Nat} (g : Nat → α) (h : d < n) : L2.atI ((List.range n).map g) (d : Int) = some (g d) := by
  unfold L2.atI
  rw [List.length_map, List.length_range, ixN_lt h]
  simp [h]
theorem idx_row {n d : Nat} (f : Nat → Nat) (h : d < n) : idxV (.list (row n f)) (.int d) = some (.int (f d)) := atI_rng _ h
theorem idx_mat {n m d : Nat} (f : Nat → Nat → Nat) (h : d < n) : idxV (.list (mat n m f)) (.int d) = some (.list (row m (f d))) := atI_rng _ h
theorem rng_nat {n : Nat} (h : n < 2 ^ 62) : rngD 0 (n : Int) = some ((List.range n).map fun (k : Nat) => .int (k : Int)) := by
  unfold rngD
  rw [if_pos (by omega)]
  simp
theorem dp_row (n : Nat) (f : Nat → Nat) : Dp 1 (.list (row n f)) := dp_list fun x hx => by
  obtain ⟨d, _, rfl⟩ := List.mem_map.mp hx
  exact dp_int _
theorem dp_mat (n m : Nat) (f : Nat → Nat → Nat) : Dp 2 (.list (mat n m f)) := dp_list fun x hx => by
  obtain ⟨d, _, rfl⟩ := List.mem_map.mp hx
  exact dp_row _ _
theorem enum_rng (g : Nat → PD) : ∀ (n k : Nat), enumD k ((List.range' k n).map g) = (List.range' k n).map fun i => .tuple [.int (i : Int), g i]
  | 0, _ => rfl
  | n + 1, k => by
    simp only [List.range'_succ, List.map_cons, enumD, enum_rng g n (k + 1)]
theorem enum_range (g : Nat → PD) (n : Nat) : enumD 0 ((List.range n).map g) = (List.range n).map fun i => .tuple [.int (i : Int), g i] := by
  rw [List.range_eq_range']
  exact enum_rng g n 0
theorem intsD_map (ns : List Int) : intsD (ns.map PyData.int) = some ns := by
  induction ns with
  | nil => rfl
  | cons n ns ih => simp only [List.map_cons, intsD, ih, Option.map_some]
theorem row_ints (n : Nat) (f : Nat → Nat) : row n f = ((List.range n).map fun d => (f d : Int)).map PyData.int := by
  unfold row
  rw [List.map_map]
  rfl
/-- each int once -/
theorem firsts_nodup {ns : List Int} (h : ns.Nodup) : firsts ns = ns := by
  have gen : ∀ (ns acc : List Int), ns.Nodup → (∀ x ∈ ns, x ∉ acc) → ns.foldl PyProof.Rows.step_dedup acc = acc ++ ns := fun ns => by
    induction ns with
    | nil => intro acc _ _; simp
    | cons n ns ih =>
      intro acc hn ha
      obtain ⟨n1, n2⟩ := List.nodup_cons.mp hn
      have e : PyProof.Rows.step_dedup acc n = acc ++ [n] := by
        unfold PyProof.Rows.step_dedup
        rw [if_neg]
        intro z
        obtain ⟨x, hx, e⟩ := List.any_eq_true.mp z
        exact ha n List.mem_cons_self (by rw [← beq_iff_eq.mp e]; exact hx)
      rw [List.foldl_cons, e, ih _ n2 fun x hx hm => ?_]
      · simp
      · rcases List.mem_append.mp hm with q | q
        · exact ha x (List.mem_cons_of_mem _ hx) q
        · rw [List.mem_singleton.mp q] at hx
          exact n1 hx
  exact (gen ns [] h fun _ _ z => nomatch z).trans (List.nil_append _)
def Inj (n : Nat) (f : Nat → Nat) : Prop := ∀ i j, i < n → j < n → f i = f j → i = j
theorem row_nodup {n : Nat} {f : Nat → Nat} (h : Inj n f) : ((List.range n).map fun d => (f d : Int)).Nodup := by
  rw [List.nodup_iff_pairwise_ne, List.pairwise_map]
  refine List.Pairwise.imp_of_mem (R := fun a b => a ≠ b) (fun {a b} ha hb hne e => hne (h a b (List.mem_range.mp ha) (List.mem_range.mp hb) (by exact_mod_cast e))) (List.nodup_iff_pairwise_ne.mp List.nodup_range)
/-- a rota of n -/
structure Lat (n : Nat) (f : Nat → Nat → Nat) : Prop where
  lt : ∀ p d, p < n → d < n → f p d < n
  rw_ : ∀ p, p < n → Inj n (f p)
  cl : ∀ d, d < n → Inj n fun p => f p d
end Lib
set_option maxRecDepth 100000
set_option maxHeartbeats 4000000
/-! LibC: kinds of rotas. -/
namespace Lib
open PySem Eng
variable {fs : List FnD} {fuel k : Nat}
local macro_rules | `(tactic| walk_at "ev") => `(tactic| try simp -implicitDefEqProofs only [runF, Nat.zero_le, nd1, exSs, exS, evX, evXs, evAs, itX, evV, evVs, evBop, itV, look, sl, put, puts, fEnv, dEnv, fSl, dSl, Sl.t, Sl.put, T.data, T.datas, scal, truth_bool, truth_int, truth_none, truth_list, len_list, len_frn, int_int, list_list, max_int, cmp_lt, cmp_le, cmp_gt, cmp_ge, add_int, sub_int, isi_int, isi_list, isi_none, eq_int, ne_int, eq_bool, ne_bool, eq_nil, ne_nil, partE, partV, iosBack, slOf, bindT, bindD, clr, tgIx, arOf, iosOf, back, ownAt, List.map_cons, List.map_nil, List.length_cons, List.length_nil, List.getElem?_cons_zero, List.getElem?_cons_succ, List.getElem?_nil, List.cons_append, List.nil_append, List.append_nil, List.replicate, Option.join_some, Option.join_none, Option.bind_some, Option.bind_none, Option.map_some, Option.map_none, List.set_cons_zero, List.set_cons_succ, if_true, ite_true, ite_false, Nat.sub_self, List.any_cons, List.any_nil, isTy, Bool.or_false, Bool.false_or, Bool.or_true, Bool.true_or, Bool.not_true, Bool.not_false, beq_self_eq_true, Option.isSome_some, Nat.reduceAdd, Nat.reduceSub, Nat.reduceEqDiff, Bool.false_eq_true, reduceIte, Bool.and_self, Bool.true_and, Bool.and_true, Bool.false_and, Bool.and_false, Bool.true_eq_false, decide_true, decide_false, Bool.true_beq, Bool.false_beq])
structure Kinds (fs : List FnD) : Prop where
  whole : fnOf fs "is_whole" = some d_is_whole
  count : fnOf fs "is_count" = some d_is_count
  below : fnOf fs "is_below" = some d_is_below
structure Rotas (fs : List FnD) : Prop extends Kinds fs where
  size : fnOf fs "is_size" = some d_is_size
  unlike : fnOf fs "are_unlike" = some d_are_unlike
  rowj : fnOf fs "is_row_of_jobs" = some d_is_row_of_jobs
  rows : fnOf fs "are_rows_of" = some d_are_rows_of
  rota : fnOf fs "is_rota" = some d_is_rota
theorem is_size (h : fnOf fs "is_whole" = some d_is_whole) (h2 : fnOf fs "is_size" = some d_is_size) (i : Int) : callF fs fuel (k + 2) "is_size" [.val (.int i)] = some (.fz (.bool (decide (1 ≤ i) && decide (i ≤ 16))), []) := by
  refine call_of h2 ?_
  have e := cd_of (c := callF fs fuel (k + 1)) (ds := [.int i]) (is_whole h i)
  unfold d_is_size
  walk_at "ev"
  rw [e]
  cases q : decide (1 ≤ i) <;> walk_at "ev"
theorem are_unlike (h : fnOf fs "are_unlike" = some d_are_unlike) {n : Nat} {f : Nat → Nat} (hn : n ≤ 4000) (hi : Inj n f) : callF fs fuel (k + 1) "are_unlike" [.val (.list (row n f))] = some (.fz (.bool true), []) := by
  refine call_of h ?_
  have e1 : intsD (row n f) = some ((List.range n).map fun d => (f d : Int)) := by rw [row_ints, intsD_map]
  have e2 := firsts_nodup (row_nodup hi)
  unfold d_are_unlike
  walk_at "ev"
  simp only [e1, Option.bind_some, List.length_map, List.length_range, if_pos hn, e2, row_len, eq_int]
  walk_at "ev"
theorem is_row_of_jobs (H : Rotas fs) {n s : Nat} {f : Nat → Nat} (hn : n ≤ 4000) (hi : Inj n f) (hl : ∀ d, d < n → f d < s) : callF fs fuel (k + 4) "is_row_of_jobs" [.val (.int s), .val (.list (row n f))] = some (.fz (.bool true), []) := by
  refine call_of H.rowj ?_
  have e := cd_of (c := callF fs fuel (k + 3)) (ds := [.list (row n f)]) (are_unlike (k := k + 2) H.unlike hn hi)
  have eb : ∀ d, d < n → cD (callF fs fuel (k + 3)) "is_below" [.int (f d), .int s] = some (.bool true) := fun d hd => by
    have := cd_of (c := callF fs fuel (k + 3)) (ds := [.int (f d), .int s]) (is_below (k := k) H.whole H.count H.below (f d : Int) (s : Int))
    have h1 : decide ((0 : Int) ≤ (f d : Int)) = true := by simp
    have h2 : decide ((f d : Int) < (s : Int)) = true := by have := hl d hd; simp [this]
    rw [this, h1, h2]
    rfl
  have hb : n < big := Nat.lt_of_le_of_lt hn (by decide)
  unfold d_is_row_of_jobs
  walk_at "ev"
  rw [row_len, if_pos hb, compD_none (xs := row n f) fun x hx => ?_]
  · walk_at "ev"
    walk_at "ev"
    rw [e]
    rfl
  · obtain ⟨d, hd, rfl⟩ := List.mem_map.mp hx
    walk_at "ev"
    rw [eb d (List.mem_range.mp hd)]
    rfl
end Lib
set_option maxRecDepth 100000
set_option maxHeartbeats 4000000
/-! LibD: rotas are known as such; their turns. -/
namespace Lib
open PySem Eng
variable {fs : List FnD} {fuel k : Nat}
local macro_rules | `(tactic| walk_at "ev") => `(tactic| try simp -implicitDefEqProofs only [runF, Nat.zero_le, nd1, exSs, exS, evX, evXs, evAs, itX, evV, evVs, evBop, itV, look, sl, put, puts, fEnv, dEnv, fSl, dSl, Sl.t, Sl.put, T.data, T.datas, scal, truth_bool, truth_int, truth_none, truth_list, len_list, len_frn, int_int, list_list, max_int, cmp_lt, cmp_le, cmp_gt, cmp_ge, add_int, sub_int, isi_int, isi_list, isi_none, eq_int, ne_int, eq_bool, ne_bool, eq_nil, ne_nil, partE, partV, iosBack, slOf, bindT, bindD, clr, tgIx, arOf, iosOf, back, ownAt, List.map_cons, List.map_nil, List.length_cons, List.length_nil, List.getElem?_cons_zero, List.getElem?_cons_succ, List.getElem?_nil, List.cons_append, List.nil_append, List.append_nil, List.replicate, Option.join_some, Option.join_none, Option.bind_some, Option.bind_none, Option.map_some, Option.map_none, List.set_cons_zero, List.set_cons_succ, if_true, ite_true, ite_false, Nat.sub_self, List.any_cons, List.any_nil, isTy, Bool.or_false, Bool.false_or, Bool.or_true, Bool.true_or, Bool.not_true, Bool.not_false, beq_self_eq_true, Option.isSome_some, Nat.reduceAdd, Nat.reduceSub, Nat.reduceEqDiff, Bool.false_eq_true, reduceIte, Bool.and_self, Bool.true_and, Bool.and_true, Bool.false_and, Bool.and_false, Bool.true_eq_false, decide_true, decide_false, Bool.true_beq, Bool.false_beq])
theorem are_rows_of (H : Rotas fs) {n : Nat} {f : Nat → Nat → Nat} (hn : n ≤ 4000) (L : Lat n f) : callF fs fuel (k + 5) "are_rows_of" [.val (.int n), .val (.int n), .val (.list (mat n n f))] = some (.fz (.bool true), []) := by
  refine call_of H.rows ?_
  have er : ∀ p, p < n → cD (callF fs fuel (k + 4)) "is_row_of_jobs" [.int n, .list (row n (f p))] = some (.bool true) := fun p hp =>
    cd_of (c := callF fs fuel (k + 4)) (ds := [.int n, .list (row n (f p))]) (is_row_of_jobs (k := k) H hn (L.rw_ p hp) fun d hd => L.lt p d hp hd)
  have eu : ∀ d, d < n → cD (callF fs fuel (k + 4)) "are_unlike" [.list (row n fun p => f p d)] = some (.bool true) := fun d hd =>
    cd_of (c := callF fs fuel (k + 4)) (ds := [.list (row n fun p => f p d)]) (are_unlike (k := k + 3) H.unlike hn (L.cl d hd))
  have hb : n < big := Nat.lt_of_le_of_lt hn (by decide)
  have h0 : decide ((n : Int) < (n : Int)) = false := by simp
  have hr := rng_nat (n := n) (Nat.lt_of_le_of_lt hn (by decide))
  unfold d_are_rows_of
  walk_at "ev"
  rw [mat_len, h0]
  walk_at "ev"
  rw [mat_len, if_pos hb, compD_none (xs := mat n n f) fun x hx => ?_]
  · walk_at "ev"
    rw [hr]
    walk_at "ev"
    rw [List.length_map, List.length_range, if_pos hb, compD_none (xs := (List.range n).map fun (k : Nat) => PyData.int (k : Int)) fun x hx => ?_]
    · walk_at "ev"
    · obtain ⟨d, hd, rfl⟩ := List.mem_map.mp hx
      have hd := List.mem_range.mp hd
      walk_at "ev"
      rw [mat_len, if_pos hb]
      have e : compD (fun x => Option.map some (idxV x (.int d))) (mat n n f) = some (row n fun p => f p d) := compD_rng fun p hp => by
        rw [idx_row _ hd]
        rfl
      rw [e]
      walk_at "ev"
      rw [eu d hd]
      rfl
  · obtain ⟨p, hp, rfl⟩ := List.mem_map.mp hx
    have hp := List.mem_range.mp hp
    walk_at "ev"
    rw [er p hp]
    walk_at "ev"
    rw [row_len]
    simp only [beq_self_eq_true]
    rfl
theorem is_rota (H : Rotas fs) {n : Nat} {f : Nat → Nat → Nat} (h1 : 1 ≤ n) (h2 : n ≤ 16) (L : Lat n f) : callF fs fuel (k + 6) "is_rota" [.val (.list (mat n n f))] = some (.fz (.bool true), []) := by
  refine call_of H.rota ?_
  have e1 := cd_of (c := callF fs fuel (k + 5)) (ds := [.int n]) (is_size (k := k + 3) H.whole H.size (n : Int))
  have e2 := cd_of (c := callF fs fuel (k + 5)) (ds := [.int n, .int n, .list (mat n n f)]) (are_rows_of (k := k) H (by omega) L)
  have h3 : decide ((1 : Int) ≤ (n : Int)) = true := by simp; omega
  have h4 : decide ((n : Int) ≤ 16) = true := by simp; omega
  rw [h3, h4] at e1
  unfold d_is_rota
  walk_at "ev"
  rw [mat_len, e1]
  walk_at "ev"
  rw [mat_len, e2]
  walk_at "ev"
theorem check_rota (H : Rotas fs) (hc : fnOf fs "check_rota" = some d_check_rota) {n : Nat} {f : Nat → Nat → Nat} (h1 : 1 ≤ n) (h2 : n ≤ 16) (L : Lat n f) : callF fs fuel (k + 7) "check_rota" [.val (.list (mat n n f))] = some (.fz .none, []) := by
  refine call_of hc ?_
  have e1 := cd_of (c := callF fs fuel (k + 6)) (ds := [.list (mat n n f)]) (is_rota (k := k) H h1 h2 L)
  unfold d_check_rota
  walk_at "ev"
  rw [e1]
  walk_at "ev"
/-- a table that is made anew -/
def rowT (n : Nat) (f : Nat → Nat) : List T := (List.range n).map fun d => .fz (.int (f d))
def matT (n m : Nat) (f : Nat → Nat → Nat) : List T := (List.range n).map fun p => .own (rowT m (f p))
theorem datas_map {α : Type} (g : α → T) : ∀ (xs : List α), T.datas (xs.map g) = xs.map fun x => (g x).data
  | [] => rfl
  | x :: xs => by
    simp only [List.map_cons, T.datas, datas_map g xs]
theorem rowT_data (n : Nat) (f : Nat → Nat) : T.datas (rowT n f) = row n f := datas_map _ _
theorem matT_data (n m : Nat) (f : Nat → Nat → Nat) : T.datas (matT n m f) = mat n m f := by
  unfold matT
  rw [datas_map]
  simp only [T.data, rowT_data]
  rfl
theorem by_days (H : Rotas fs) (hc : fnOf fs "check_rota" = some d_check_rota) (hd : fnOf fs "by_days" = some d_by_days) {n : Nat} {f : Nat → Nat → Nat} (h1 : 1 ≤ n) (h2 : n ≤ 16) (L : Lat n f) :
    callF fs fuel (k + 8) "by_days" [.val (.list (mat n n f))] = some (.own (matT n n fun d p => f p d), []) := by
  refine call_of hd ?_
  have e1 := cd_of (c := callF fs fuel (k + 7)) (ds := [.list (mat n n f)]) (check_rota (k := k) H hc h1 h2 L)
  have hr := rng_nat (n := n) (by omega)
  have hb : n < big := by
    have : (17 : Nat) < big := by decide
    omega
  unfold d_by_days
  walk_at "ev"
  rw [e1]
  walk_at "ev"
  rw [mat_len, hr]
  walk_at "ev"
  rw [List.length_map, List.length_range, if_pos hb, cmpX_rng (g := fun d => T.own (rowT n fun p => f p d)) fun d hdr => ?_]
  · rfl
  · have hdr := List.mem_range.mp hdr
    refine ⟨[some (.val (.fz (.list (mat n n f)))), some (.val (.fz (.int d))), none], ?_, rfl⟩
    walk_at "ev"
    rw [mat_len, if_pos hb]
    walk_at "ev"
    rw [show mat n n f = (List.range n).map fun p => PyData.list (row n (f p)) from rfl, cmpX_rng (g := fun p => T.fz (.int (f p d))) fun p hp => ?_]
    · walk_at "ev"
      rfl
    · refine ⟨[some (.val (.fz (.list (mat n n f)))), some (.val (.fz (.int d))), some (.val (.fz (.list (row n (f p)))))], ?_, rfl⟩
      walk_at "ev"
      rw [idx_row _ hdr]
      rfl
end Lib
set_option maxRecDepth 100000
set_option maxHeartbeats 4000000
/-! LibE: loops; the books of a rota. -/
namespace Lib
open PySem Eng
variable {fs : List FnD} {fuel k : Nat}
local macro_rules | `(tactic| walk_at "ev") => `(tactic| try simp -implicitDefEqProofs only [runF, Nat.zero_le, nd1, exSs, exS, evX, evXs, evAs, itX, evV, evVs, evBop, itV, look, sl, put, puts, fEnv, dEnv, fSl, dSl, Sl.t, Sl.put, T.data, T.datas, scal, truth_bool, truth_int, truth_none, truth_list, len_list, len_frn, int_int, list_list, max_int, cmp_lt, cmp_le, cmp_gt, cmp_ge, add_int, sub_int, isi_int, isi_list, isi_none, eq_int, ne_int, eq_bool, ne_bool, eq_nil, ne_nil, partE, partV, iosBack, slOf, bindT, bindD, clr, tgIx, arOf, iosOf, back, ownAt, List.map_cons, List.map_nil, List.length_cons, List.length_nil, List.getElem?_cons_zero, List.getElem?_cons_succ, List.getElem?_nil, List.cons_append, List.nil_append, List.append_nil, List.replicate, Option.join_some, Option.join_none, Option.bind_some, Option.bind_none, Option.map_some, Option.map_none, List.set_cons_zero, List.set_cons_succ, if_true, ite_true, ite_false, Nat.sub_self, List.any_cons, List.any_nil, isTy, Bool.or_false, Bool.false_or, Bool.or_true, Bool.true_or, Bool.not_true, Bool.not_false, beq_self_eq_true, Option.isSome_some, Nat.reduceAdd, Nat.reduceSub, Nat.reduceEqDiff, Bool.false_eq_true, reduceIte, Bool.and_self, Bool.true_and, Bool.and_true, Bool.false_and, Bool.and_false, Bool.true_eq_false, decide_true, decide_false, Bool.true_beq, Bool.false_beq])
theorem run_rt {c : CallT} {f : FnD} {as : List Ar} {t : T} {env : TEnv} {ts : List T} {env0 : TEnv} (hl : as.length = f.params.length) (h0 : as.map slOf ++ List.replicate (f.N.length - as.length) none = env0) (h : exSs c fuel f.body env0 = some (.rt t env)) (h2 : iosBack as env = some ts) : runF c fuel f as = some (t, ts) := by
  unfold runF
  rw [if_pos hl, h0, h]
  show (iosBack as env).map _ = _
  rw [h2]
  rfl
theorem ex_seq {c : CallT} {s : S} {ss : Ss} {env env1 : TEnv} {o : Out} (h1 : exS c fuel s env = some (.nx env1)) (h2 : exSs c fuel ss env1 = some o) : exSs c fuel (.cons s ss) env = some o := by
  simp only [exSs, h1, Option.bind_some]
  exact h2
theorem ex_last {c : CallT} {s : S} {env env1 : TEnv} (h1 : exS c fuel s env = some (.nx env1)) : exSs c fuel (.cons s .nil) env = some (.nx env1) := ex_seq h1 rfl
theorem ex_ret {c : CallT} {s : S} {ss : Ss} {env env1 : TEnv} {t : T} (h1 : exS c fuel s env = some (.rt t env1)) : exSs c fuel (.cons s ss) env = some (.rt t env1) := by
  simp only [exSs, h1, Option.bind_some]
theorem ex_for {c : CallT} {tg : Tg} {it : IX} {body : Ss} {env env1 : TEnv} {ds : List PD} {o : Out} (h1 : itX c it env = some (ds, env1)) (h2 : forL (fun d env => (bindT tg d env).bind fun env' => exSs c fuel body env') ds env1 = some o) : exS c fuel (.for_ tg it body) env = some o := by
  simp only [exS, h1, Option.bind_some]
  exact h2
def fzo (o : Option PD) : Option Sl := o.map fun d => .val (.fz d)
theorem put_fz {env : TEnv} {i : Nat} {t : T} {x : Option PD} (h : sl env i = fzo x) : put env i t = some (env.set i (some (.val t))) := by
  unfold put
  rw [h]
  cases x <;> rfl
theorem bind1 {env : TEnv} {i : Nat} {d : PD} {x : Option PD} (h : sl env i = fzo x) : bindT (.one i) d env = some (env.set i (some (.val (.fz d)))) := put_fz h
theorem bind2 {env : TEnv} {i j : Nat} {a b : PD} {x y : Option PD} (h : sl env i = fzo x) (h2 : sl (env.set i (some (.val (.fz a)))) j = fzo y) : bindT (.two i j) (.tuple [a, b]) env = some ((env.set i (some (.val (.fz a)))).set j (some (.val (.fz b)))) := by
  show (put env i (.fz a)).bind (fun env => put env j (.fz b)) = _
  rw [put_fz h]
  exact put_fz h2
theorem clr1 {env : TEnv} {i : Nat} {x : Option PD} (h : sl env i = fzo x) : clr [i] env = some (env.set i none) := by
  unfold clr
  rw [h]
  cases x <;> rfl
theorem forL_inv {α : Type} {f : α → TEnv → Option Out} {I : Nat → TEnv → Prop} : ∀ {xs : List α} {k : Nat} {env : TEnv}, (∀ i x env, xs[i]? = some x → I (k + i) env → ∃ o env1, f x env = some o ∧ (o = .nx env1 ∨ o = .ct env1) ∧ I (k + i + 1) env1) → I k env →
    ∃ env1, forL f xs env = some (.nx env1) ∧ I (k + xs.length) env1
  | [], k, env, _, h => ⟨env, rfl, h⟩
  | x :: xs, k, env, hs, h => by
    obtain ⟨o, env1, e1, e2, h1⟩ := hs 0 x env rfl h
    obtain ⟨env2, e3, h2⟩ := forL_inv (xs := xs) (k := k + 1) (env := env1) (fun i y env' hy hi => by
      obtain ⟨o, env1, a, b, c⟩ := hs (i + 1) y env' hy (by rw [show k + (i + 1) = k + 1 + i by omega]; exact hi)
      exact ⟨o, env1, a, b, by rw [show k + 1 + i + 1 = k + (i + 1) + 1 by omega]; exact c⟩) h1
    refine ⟨env2, ?_, by rw [List.length_cons, show k + (xs.length + 1) = k + 1 + xs.length by omega]; exact h2⟩
    rcases e2 with rfl | rfl
    · simp only [forL, e1, Option.bind_some, e3]
    · simp only [forL, e1, Option.bind_some, e3]
/-- a loop over a range's images -/
theorem for_rng {f : PD → TEnv → Option Out} {I : Nat → TEnv → Prop} {n : Nat} {e : Nat → PD} {env : TEnv} (h : ∀ i env, i < n → I i env → ∃ o env1, f (e i) env = some o ∧ (o = .nx env1 ∨ o = .ct env1) ∧ I (i + 1) env1) (h0 : I 0 env) :
    ∃ env1, forL f ((List.range n).map e) env = some (.nx env1) ∧ I n env1 := by
  have := forL_inv (f := f) (I := I) (xs := (List.range n).map e) (k := 0) (env := env) (fun i x env' hx hi => by
    rw [List.getElem?_map] at hx
    simp only [Option.map_eq_some_iff] at hx
    obtain ⟨j, hj, rfl⟩ := hx
    obtain ⟨h1, h2⟩ := List.getElem?_eq_some_iff.mp hj
    rw [List.getElem_range] at h2
    subst h2
    rw [Nat.zero_add] at hi ⊢
    exact h i env' (by simpa using h1) hi) h0
  simpa using this
theorem find_row {n d : Nat} {f : Nat → Nat} (h : Inj n f) (hd : d < n) : (row n f).findIdx? (fun z => PyData.eqv z (.int (f d))) = some d := by
  rw [List.findIdx?_eq_some_iff_getElem]
  refine ⟨by rw [row_len]; exact hd, ?_, fun j hj => ?_⟩
  · simp [row, PyData.eqv]
  · have : f j ≠ f d := fun e => by
      have := h j d (by omega) hd e
      omega
    simp [row, PyData.eqv]
    exact_mod_cast this
theorem index_row {n d : Nat} {f : Nat → Nat} (h : Inj n f) (hd : d < n) : (if shp (.list (row n f)) && shp (.int (f d)) then ((row n f).findIdx? fun z => PyData.eqv z (.int (f d))).map fun (j : Nat) => PyData.int (j : Int) else none) = some (.int d) := by
  rw [shp_of (dp_row _ _) (by decide), shp_of (dp_int _) (by decide), find_row h hd]
  rfl
/-- g j d: who has j on d -/
def Who (n : Nat) (f g : Nat → Nat → Nat) : Prop := ∀ j d, j < n → d < n → g j d < n ∧ f (g j d) d = j
/-- h p j: when p has j -/
def When (n : Nat) (f h : Nat → Nat → Nat) : Prop := ∀ p j, p < n → j < n → h p j < n ∧ f p (h p j) = j
theorem day_books (H : Rotas fs) (hc : fnOf fs "check_rota" = some d_check_rota) (hd : fnOf fs "day_books" = some d_day_books) {n : Nat} {f h : Nat → Nat → Nat} (h1 : 1 ≤ n) (h2 : n ≤ 16) (L : Lat n f) (W : When n f h) :
    callF fs fuel (k + 8) "day_books" [.val (.list (mat n n f))] = some (.own (matT n n h), []) := by
  refine call_of hd ?_
  have e1 := cd_of (c := callF fs fuel (k + 7)) (ds := [.list (mat n n f)]) (check_rota (k := k) H hc h1 h2 L)
  have hr := rng_nat (n := n) (by omega)
  have hb : n < big := by
    have : (17 : Nat) < big := by decide
    omega
  unfold d_day_books
  walk_at "ev"
  rw [e1]
  walk_at "ev"
  rw [mat_len, if_pos hb]
  walk_at "ev"
  rw [show cmpX _ [1] (mat n n f) = cmpX _ [1] ((List.range n).map fun p => PyData.list (row n (f p))) from rfl, cmpX_rng (g := fun p => T.own (rowT n (h p))) fun p hp => ?_]
  · walk_at "ev"
    rfl
  · have hp := List.mem_range.mp hp
    refine ⟨[some (.val (.fz (.list (mat n n f)))), some (.val (.fz (.list (row n (f p))))), none], ?_, rfl⟩
    walk_at "ev"
    rw [mat_len, hr]
    walk_at "ev"
    rw [List.length_map, List.length_range, if_pos hb]
    walk_at "ev"
    rw [cmpX_rng (g := fun j => T.fz (.int (h p j))) fun j hj => ?_]
    · walk_at "ev"
      rfl
    · have hj := List.mem_range.mp hj
      refine ⟨[some (.val (.fz (.list (mat n n f)))), some (.val (.fz (.list (row n (f p))))), some (.val (.fz (.int j)))], ?_, rfl⟩
      walk_at "ev"
      obtain ⟨w1, w2⟩ := W p j hp hj
      have := index_row (L.rw_ p hp) w1
      rw [w2] at this
      rw [this]
      rfl
theorem matT_get {n m a : Nat} {u : Nat → Nat → Nat} (ha : a < n) : (matT n m u)[a]? = some (.own (rowT m (u a))) := by
  simp [matT, ha]
theorem matT_len (n m : Nat) (u : Nat → Nat → Nat) : (matT n m u).length = n := by simp [matT]
theorem rowT_len (n : Nat) (u : Nat → Nat) : (rowT n u).length = n := by simp [rowT]
theorem rowT_set {m b v : Nat} {u : Nat → Nat} (hb : b < m) : (rowT m u).set b (.fz (.int v)) = rowT m fun d => if d = b then v else u d := by
  apply List.ext_getElem
  · simp [rowT]
  · intro i h1 h2
    simp only [rowT, List.getElem_set, List.getElem_map, List.getElem_range]
    by_cases q : b = i
    · rw [if_pos q, if_pos q.symm]
    · rw [if_neg q, if_neg fun z => q z.symm]
theorem matT_set {n m a b v : Nat} {u : Nat → Nat → Nat} (ha : a < n) (hb : b < m) : (matT n m u).set a (.own ((rowT m (u a)).set b (.fz (.int v)))) = matT n m fun j d => if j = a ∧ d = b then v else u j d := by
  rw [rowT_set hb]
  apply List.ext_getElem
  · simp [matT]
  · intro i h1 h2
    simp only [matT, List.getElem_set, List.getElem_map, List.getElem_range]
    by_cases q : a = i
    · rw [if_pos q]
      subst q
      simp
    · rw [if_neg q]
      have : ¬ i = a := fun z => q z.symm
      simp [this]
theorem rowT_congr {n : Nat} {f g : Nat → Nat} (h : ∀ d, d < n → f d = g d) : rowT n f = rowT n g := by
  unfold rowT
  apply List.map_congr_left
  intro d hd
  rw [h d (List.mem_range.mp hd)]
theorem matT_congr {n m : Nat} {f g : Nat → Nat → Nat} (h : ∀ p d, p < n → d < m → f p d = g p d) : matT n m f = matT n m g := by
  unfold matT
  apply List.map_congr_left
  intro p hp
  rw [rowT_congr (h p · (List.mem_range.mp hp))]
theorem mat_congr {n m : Nat} {f g : Nat → Nat → Nat} (h : ∀ p d, p < n → d < m → f p d = g p d) : mat n m f = mat n m g := by
  rw [← matT_data, ← matT_data, matT_congr h]
theorem rep_zero (n : Nat) : List.replicate n (T.fz (.int 0)) = rowT n fun _ => 0 := by
  apply List.ext_getElem
  · simp [rowT]
  · intro i h1 h2
    simp [rowT]
theorem idx_nat {n d : Nat} (h : d < n) : idxOf n (.int (d : Int)) = some d := ixN_lt h
theorem by_jobs (H : Rotas fs) (hc : fnOf fs "check_rota" = some d_check_rota) (hd : fnOf fs "by_jobs" = some d_by_jobs) {n : Nat} {f g : Nat → Nat → Nat} (h1 : 1 ≤ n) (h2 : n ≤ 16) (L : Lat n f) (W : Who n f g) :
    callF fs fuel (k + 8) "by_jobs" [.val (.list (mat n n f))] = some (.own (matT n n g), []) := by
  refine call_of hd ?_
  have e1 := cd_of (c := callF fs fuel (k + 7)) (ds := [.list (mat n n f)]) (check_rota (k := k) H hc h1 h2 L)
  have hr := rng_nat (n := n) (by omega)
  have hb : n < big := by
    have : (17 : Nat) < big := by decide
    omega
  -- the state ahead of person P, of day D
  let I : Nat → Nat → TEnv → Prop := fun P D env => ∃ (u : Nat → Nat → Nat) (x3 x4 x5 x6 : Option PD), env = [some (.val (.fz (.list (mat n n f)))), some (.val (.fz (.int n))), some (.val (.own (matT n n u))), fzo x3, fzo x4, fzo x5, fzo x6] ∧
    ∀ j d, j < n → d < n → (g j d < P ∨ (g j d = P ∧ d < D)) → u j d = g j d
  have step : ∀ (p d : Nat) (env : TEnv), p < n → d < n → I p d env → (∃ x4, env[4]? = some (fzo x4) ) → env[3]? = some (some (.val (.fz (.int p)))) → ∃ env1, (exSs (callF fs fuel (k + 7)) fuel (.cons (.set2 2 (.var 5) (.var 6) (.fr (.var 3))) .nil) ((env.set 6 (some (.val (.fz (.int d))))).set 5 (some (.val (.fz (.int (f p d))))))) = some (.nx env1) ∧ I p (d + 1) env1 ∧ env1[3]? = some (some (.val (.fz (.int p)))) ∧ env1[4]? = env[4]? := by
    intro p d env hp hdd hI hx4 h3
    obtain ⟨u, x3, x4, x5, x6, rfl, hu⟩ := hI
    have e3 : fzo x3 = some (.val (.fz (.int p))) := by simpa using h3
    have hj := L.lt p d hp hdd
    rw [e3]
    refine ⟨[some (.val (.fz (.list (mat n n f)))), some (.val (.fz (.int n))), some (.val (.own (matT n n fun j' d' => if j' = f p d ∧ d' = d then p else u j' d'))), some (.val (.fz (.int p))), fzo x4, some (.val (.fz (.int (f p d)))), some (.val (.fz (.int d)))], ?_, ⟨_, some (.int p), x4, some (.int (f p d)), some (.int d), rfl, fun j d' hj' hd' hc => ?_⟩, rfl, rfl⟩
    · walk_at "ev"
      rw [matT_len, idx_nat hj]
      walk_at "ev"
      rw [matT_get hj]
      walk_at "ev"
      rw [rowT_len, idx_nat hdd]
      walk_at "ev"
      rw [matT_set hj hdd]
    · obtain ⟨w1, w2⟩ := W j d' hj' hd'
      by_cases q : j = f p d ∧ d' = d
      · rw [if_pos q]
        obtain ⟨q1, q2⟩ := q
        subst q2
        exact L.cl d' hd' p (g j d') hp w1 (by show f p d' = f (g j d') d'; rw [w2, q1])
      · rw [if_neg q]
        refine hu j d' hj' hd' ?_
        rcases hc with z | ⟨z, z2⟩
        · exact .inl z
        · refine .inr ⟨z, ?_⟩
          rcases Nat.lt_succ_iff_lt_or_eq.mp z2 with y | y
          · exact y
          · exfalso
            apply q
            rw [← w2, z, y]
            exact ⟨rfl, rfl⟩
  have inner : ∀ (p : Nat) (env : TEnv), p < n → I p 0 env → env[3]? = some (some (.val (.fz (.int p)))) → env[4]? = some (some (.val (.fz (.list (row n (f p)))))) →
      ∃ env1, exSs (callF fs fuel (k + 7)) fuel (.cons (.for_ (.two 6 5) (.fz (.enm (.var 4))) (.cons (.set2 2 (.var 5) (.var 6) (.fr (.var 3))) .nil)) .nil) env = some (.nx env1) ∧ I (p + 1) 0 env1 := by
    intro p env hp hI h3 h4
    obtain ⟨env1, e, hI1, _, _⟩ := for_rng (n := n) (e := fun i => .tuple [.int (i : Int), .int (f p i)]) (env := env) (I := fun d env => I p d env ∧ env[3]? = some (some (.val (.fz (.int p)))) ∧ ∃ x4, env[4]? = some (fzo x4))
      (f := fun d env => (bindT (.two 6 5) d env).bind fun env' => exSs (callF fs fuel (k + 7)) fuel (.cons (.set2 2 (.var 5) (.var 6) (.fr (.var 3))) .nil) env') (fun d env hd ⟨hI, h3, h4⟩ => by
        obtain ⟨env1, s1, s2, s3, s4⟩ := step p d env hp hd hI h4 h3
        refine ⟨_, env1, ?_, .inl rfl, s2, s3, by rw [s4]; exact h4⟩
        obtain ⟨u, x3, x4, x5, x6, rfl, hu⟩ := hI
        rw [bind2 (x := x6) (y := x5) rfl rfl]
        exact s1) ⟨hI, h3, some (.list (row n (f p))), h4⟩
    refine ⟨env1, ?_, ?_⟩
    · obtain ⟨u, x3, x4, x5, x6, rfl, hu⟩ := hI
      have e4 : fzo x4 = some (.val (.fz (.list (row n (f p))))) := by simpa using h4
      rw [e4] at e ⊢
      have ee : enumD 0 (row n (f p)) = (List.range n).map fun (i : Nat) => PyData.tuple [.int (i : Int), .int (f p i)] := enum_range (fun i => .int (f p i)) n
      refine ex_last (ex_for (ds := enumD 0 (row n (f p))) ?_ (by rw [ee]; exact e))
      walk_at "ev"
    · obtain ⟨u, x3, x4, x5, x6, rfl, hu⟩ := hI1
      refine ⟨u, x3, x4, x5, x6, rfl, fun j d hj hd hc => hu j d hj hd ?_⟩
      omega
  have outer : ∃ env1, forL (fun d env => (bindT (.two 3 4) d env).bind fun env' => exSs (callF fs fuel (k + 7)) fuel (.cons (.for_ (.two 6 5) (.fz (.enm (.var 4))) (.cons (.set2 2 (.var 5) (.var 6) (.fr (.var 3))) .nil)) .nil) env') ((List.range n).map fun (i : Nat) => PyData.tuple [.int (i : Int), .list (row n (f i))]) [some (.val (.fz (.list (mat n n f)))), some (.val (.fz (.int n))), some (.val (.own (matT n n fun _ _ => 0))), none, none, none, none] = some (.nx env1) ∧ I n 0 env1 :=
    for_rng (I := fun P env => I P 0 env) (fun p env hp hI => by
      obtain ⟨u, x3, x4, x5, x6, rfl, hu⟩ := hI
      rw [bind2 (x := x3) (y := x4) rfl rfl]
      obtain ⟨env1, e, h⟩ := inner p [some (.val (.fz (.list (mat n n f)))), some (.val (.fz (.int n))), some (.val (.own (matT n n u))), some (.val (.fz (.int p))), some (.val (.fz (.list (row n (f p))))), fzo x5, fzo x6] hp ⟨u, some (.int p), some (.list (row n (f p))), x5, x6, rfl, hu⟩ rfl rfl
      exact ⟨_, env1, e, .inl rfl, h⟩) ⟨fun _ _ => 0, none, none, none, none, rfl, fun j d _ _ hc => by omega⟩
  obtain ⟨env1, eo, hI⟩ := outer
  obtain ⟨u, x3, x4, x5, x6, rfl, hu⟩ := hI
  have eu : matT n n u = matT n n g := matT_congr fun j d hj hd' => hu j d hj hd' (.inl (W j d hj hd').1)
  have em : enumD 0 (mat n n f) = (List.range n).map fun (i : Nat) => PyData.tuple [.int (i : Int), .list (row n (f i))] := enum_range _ n
  let e0 : TEnv := [some (.val (.fz (.list (mat n n f)))), none, none, none, none, none, none]
  refine run_rt (env0 := e0) (env := [some (.val (.fz (.list (mat n n f)))), some (.val (.fz (.int n))), none, fzo x3, fzo x4, fzo x5, fzo x6]) rfl rfl ?_ rfl
  refine ex_seq (env1 := e0) ?_ ?_
  · walk_at "ev"
    rw [show e0 = [some (.val (.fz (.list (mat n n f)))), none, none, none, none, none, none] from rfl]
    walk_at "ev"
    rw [e1]
    walk_at "ev"
  refine ex_seq (env1 := [some (.val (.fz (.list (mat n n f)))), some (.val (.fz (.int n))), none, none, none, none, none]) ?_ ?_
  · rw [show e0 = [some (.val (.fz (.list (mat n n f)))), none, none, none, none, none, none] from rfl]
    walk_at "ev"
    rw [mat_len]
  refine ex_seq (env1 := [some (.val (.fz (.list (mat n n f)))), some (.val (.fz (.int n))), some (.val (.own (matT n n fun _ _ => 0))), none, none, none, none]) ?_ ?_
  · walk_at "ev"
    rw [hr]
    walk_at "ev"
    rw [List.length_map, List.length_range, if_pos hb]
    walk_at "ev"
    rw [cmpX_rng (g := fun _ => T.own (rowT n fun _ => 0)) fun j hj => ?_]
    · walk_at "ev"
      rfl
    · refine ⟨[some (.val (.fz (.list (mat n n f)))), some (.val (.fz (.int n))), none, none, none, some (.val (.fz (.int j))), none], ?_, rfl⟩
      walk_at "ev"
      have c1 : decide ((n : Int) < 2 ^ 24) = true := by simp <;> omega
      have c2 : decide (-(2 ^ 63) ≤ (n : Int)) = true := by simp <;> omega
      rw [c1, c2, Int.toNat_natCast, rep_zero]
      rfl
  refine ex_seq (env1 := [some (.val (.fz (.list (mat n n f)))), some (.val (.fz (.int n))), some (.val (.own (matT n n u))), fzo x3, fzo x4, fzo x5, fzo x6]) (ex_for (ds := enumD 0 (mat n n f)) ?_ (by rw [em]; exact eo)) ?_
  · walk_at "ev"
  refine ex_ret (env1 := [some (.val (.fz (.list (mat n n f)))), some (.val (.fz (.int n))), none, fzo x3, fzo x4, fzo x5, fzo x6]) ?_
  walk_at "ev"
  rw [eu]
end Lib
set_option maxRecDepth 100000
set_option maxHeartbeats 4000000
/-! LibF: the generator. -/
namespace Lib
open PySem Eng
variable {fs : List FnD} {fuel k : Nat}
local macro_rules | `(tactic| walk_at "ev") => `(tactic| try simp -implicitDefEqProofs only [runF, Nat.zero_le, nd1, exSs, exS, evX, evXs, evAs, itX, evV, evVs, evBop, itV, look, sl, put, puts, fEnv, dEnv, fSl, dSl, Sl.t, Sl.put, T.data, T.datas, scal, truth_bool, truth_int, truth_none, truth_list, len_list, len_frn, int_int, list_list, max_int, cmp_lt, cmp_le, cmp_gt, cmp_ge, add_int, sub_int, isi_int, isi_list, isi_none, eq_int, ne_int, eq_bool, ne_bool, eq_nil, ne_nil, partE, partV, iosBack, slOf, bindT, bindD, clr, tgIx, arOf, iosOf, back, ownAt, List.map_cons, List.map_nil, List.length_cons, List.length_nil, List.getElem?_cons_zero, List.getElem?_cons_succ, List.getElem?_nil, List.cons_append, List.nil_append, List.append_nil, List.replicate, Option.join_some, Option.join_none, Option.bind_some, Option.bind_none, Option.map_some, Option.map_none, List.set_cons_zero, List.set_cons_succ, if_true, ite_true, ite_false, Nat.sub_self, List.any_cons, List.any_nil, isTy, Bool.or_false, Bool.false_or, Bool.or_true, Bool.true_or, Bool.not_true, Bool.not_false, beq_self_eq_true, Option.isSome_some, Nat.reduceAdd, Nat.reduceSub, Nat.reduceEqDiff, Bool.false_eq_true, reduceIte, Bool.and_self, Bool.true_and, Bool.and_true, Bool.false_and, Bool.and_false, Bool.true_eq_false, decide_true, decide_false, Bool.true_beq, Bool.false_beq])
theorem log_le {i : Int} {a : Nat} (h : i.natAbs < 2 ^ a) : i.natAbs.log2 ≤ a := by
  by_cases q : i.natAbs = 0
  · rw [q]
    simp
  · exact Nat.le_of_lt ((Nat.log2_lt q).mpr h)
theorem mul_ok {i j : Int} (a b : Nat) (hi : i.natAbs < 2 ^ a) (hj : j.natAbs < 2 ^ b) (hab : a + b < 1000000) : binV .Mult (.int i) (.int j) = some (.int (i * j)) := mul_int (by
  have := log_le hi
  have := log_le hj
  omega)
theorem nab {i : Int} {a : Nat} (h0 : 0 ≤ i) (h : i < 2 ^ a) : i.natAbs < 2 ^ a := by
  have e : ((i.natAbs : Nat) : Int) = i := Int.natAbs_of_nonneg h0
  have : ((i.natAbs : Nat) : Int) < ((2 ^ a : Nat) : Int) := by
    rw [e]
    push_cast
    exact h
  exact_mod_cast this
theorem nab_mul {i j : Int} {a b : Nat} (hi : i.natAbs < 2 ^ a) (hj : j.natAbs < 2 ^ b) : (i * j).natAbs < 2 ^ (a + b) := by
  rw [Int.natAbs_mul, Nat.pow_add]
  exact Nat.mul_lt_mul'' hi hj
structure Rand (fs : List FnD) : Prop where
  hash : fnOf fs "_law_hash" = some w_hash
  random : fnOf fs "_law_random" = some w_random
theorem hash (H : fnOf fs "_law_hash" = some w_hash) {b c : Int} (h1 : 0 ≤ b) (h2 : b < 2 ^ 31) (h3 : 0 ≤ c) (h4 : c < 2 ^ 300) : ∃ r : Int, 0 ≤ r ∧ r < 2147483647 ∧ callF fs fuel (k + 1) "_law_hash" [.val (.int b), .val (.int c)] = some (.fz (.int r), []) := by
  have hb := nab h1 h2
  have hc := nab h3 h4
  have m1 := mul_ok (i := b) (j := 1140671) 31 21 hb (by decide) (by decide)
  have m2 := mul_ok (i := 27644437) (j := c) 25 300 (by decide) hc (by decide)
  have m3 := mul_ok (i := 27644437 * c) (j := c) 325 300 (nab_mul (a := 25) (by decide) hc) hc (by decide)
  have m4 := mul_ok (i := 131) (j := c) 8 300 (by decide) hc (by decide)
  have d1 : (0 : Int) < 2147483629 := by decide
  have d2 : (0 : Int) < 2147483587 := by decide
  have d3 : (0 : Int) < 2147483647 := by decide
  generalize hx : (b * 1140671 + 27644437 * c * c + 131 * c + 19) % 2147483629 = x
  have x1 : 0 ≤ x := by rw [← hx]; exact Int.emod_nonneg _ (by decide)
  have x2 : x < 2147483629 := by rw [← hx]; exact Int.emod_lt_of_pos _ (by decide)
  have hxa : x.natAbs < 2 ^ 31 := nab x1 (by omega)
  have m5 := mul_ok (i := x) (j := x) 31 31 hxa hxa (by decide)
  have m6 := mul_ok (i := 62089) (j := c) 16 300 (by decide) hc (by decide)
  generalize hy : (x * x + 62089 * c + 32416187) % 2147483587 = y
  have y1 : 0 ≤ y := by rw [← hy]; exact Int.emod_nonneg _ (by decide)
  have y2 : y < 2147483587 := by rw [← hy]; exact Int.emod_lt_of_pos _ (by decide)
  have m7 := mul_ok (i := y) (j := 48271) 31 16 (nab y1 (by omega)) (by decide) (by decide)
  refine ⟨y * 48271 % 2147483647, Int.emod_nonneg _ (by decide), Int.emod_lt_of_pos _ (by decide), call_of H ?_⟩
  unfold w_hash
  walk_at "ev"
  simp only [m1, m2, m3, m4, Option.bind_some, add_int, int_int, mod_int d1, hx]
  walk_at "ev"
  simp only [m5, m6, Option.bind_some, add_int, int_int, mod_int d2, hy]
  walk_at "ev"
  simp only [m7, Option.bind_some, add_int, int_int, mod_int d3]
  walk_at "ev"
def gen (a b c : Int) : T := .own [.fz (.int a), .fz (.int b), .fz (.int c)]
theorem at0 (x y z : PD) : idxV (.list [x, y, z]) (.int 0) = some x := rfl
theorem at1 (x y z : PD) : idxV (.list [x, y, z]) (.int 1) = some y := rfl
theorem at2 (x y z : PD) : idxV (.list [x, y, z]) (.int 2) = some z := rfl
theorem div_int {i j : Int} (h : 0 < j) (h2 : j.natAbs.log2 < 9000) : binV .FloorDiv (.int i) (.int j) = some (.int (i / j)) := if_pos ⟨h, h2⟩
theorem random (H : Rand fs) {a b c m : Int} {n : Nat} (h1 : 0 ≤ b) (h2 : b < 2 ^ 31) (h3 : 0 ≤ c) (h4 : c ≤ m) (hm : m < 2 ^ 299) (hn : 0 < n) (hn2 : n < 2 ^ 29) :
    ∃ (r : Nat) (a' c' : Int), r < n ∧ 0 ≤ c' ∧ c' ≤ m + 1 ∧ callF fs fuel (k + 2) "_law_random" [.io (gen a b c), .val (.int n)] = some (.fz (.int r), [gen a' b c']) := by
  have n0 : (0 : Int) < (n : Int) := by omega
  have nl : (n : Int).natAbs.log2 < 9000 := by
    have : (n : Int).natAbs.log2 ≤ 29 := log_le (by simpa using hn2)
    omega
  by_cases ha : 0 < a
  · refine ⟨(a % n).toNat, a / n, c, ?_, h3, by omega, call_of H.random ?_⟩
    · have := Int.emod_lt_of_pos a n0
      have := Int.emod_nonneg a (Int.ne_of_gt n0)
      omega
    · have e : (((a % n).toNat : Nat) : Int) = a % n := Int.toNat_of_nonneg (Int.emod_nonneg a (Int.ne_of_gt n0))
      have hd : decide (0 < a) = true := decide_eq_true ha
      rw [e]
      unfold w_random
      refine run_rt (env0 := [some (.pin (gen a b c)), some (.val (.fz (.int n))), none, none]) (env := [some (.pin (gen (a / n) b c)), some (.val (.fz (.int n))), some (.val (.fz (.int (a % n)))), none]) rfl rfl ?_ rfl
      unfold gen
      walk_at "ev"
      rw [at0, ]
      walk_at "ev"
      rw [hd]
      walk_at "ev"
      rw [mod_int n0]
      walk_at "ev"
      rw [at0]
      walk_at "ev"
      rw [div_int n0 nl]
      walk_at "ev"
      rfl
  · obtain ⟨x, x1, x2, ex⟩ := hash (fs := fs) (fuel := fuel) (k := k) H.hash (b := b) (c := c + 1) h1 h2 (by omega) (Int.lt_of_le_of_lt (b := m + 1) (by omega) (Int.lt_of_le_of_lt (b := 2 ^ 299) (by omega) (by decide)))
    have ex := cd_of (c := callF fs fuel (k + 1)) (ds := [.int b, .int (c + 1)]) ex
    refine ⟨(x % n).toNat, a, c + 1, ?_, by omega, by omega, call_of H.random ?_⟩
    · have := Int.emod_lt_of_pos x n0
      have := Int.emod_nonneg x (Int.ne_of_gt n0)
      omega
    · have e : (((x % n).toNat : Nat) : Int) = x % n := Int.toNat_of_nonneg (Int.emod_nonneg x (Int.ne_of_gt n0))
      have hd : decide (0 < a) = false := decide_eq_false ha
      have nb : (((Builtin.Int.intBits (n : Int) : Nat) : Int) / 30) = 0 := by
        have : (n : Int).natAbs.log2 < 29 := by
          have : (n : Int).natAbs ≠ 0 := by omega
          exact (Nat.log2_lt this).mpr (by simpa using hn2)
        unfold Builtin.Int.intBits
        split <;> omega
      rw [e]
      refine run_rt (env0 := [some (.pin (gen a b c)), some (.val (.fz (.int n))), none, none]) (env := [some (.pin (gen a b (c + 1))), some (.val (.fz (.int n))), some (.val (.fz (.int x))), some (.val (.fz (.int 0)))]) rfl rfl ?_ rfl
      unfold gen
      refine ex_seq (env1 := [some (.pin (.own [.fz (.int a), .fz (.int b), .fz (.int c)])), some (.val (.fz (.int n))), none, none]) ?_ (ex_seq (env1 := [some (.pin (.own [.fz (.int a), .fz (.int b), .fz (.int c)])), some (.val (.fz (.int n))), some (.val (.fz (.int 0))), none]) ?_ (ex_seq (ex_for (ds := [.int 0]) (env1 := [some (.pin (.own [.fz (.int a), .fz (.int b), .fz (.int c)])), some (.val (.fz (.int n))), some (.val (.fz (.int 0))), none]) ?_ (o := .nx [some (.pin (.own [.fz (.int a), .fz (.int b), .fz (.int (c + 1))])), some (.val (.fz (.int n))), some (.val (.fz (.int x))), some (.val (.fz (.int 0)))]) ?_) (ex_ret ?_)))
      · walk_at "ev"
        rw [at0]
        walk_at "ev"
        rw [hd]
        walk_at "ev"
      · walk_at "ev"
      · walk_at "ev"
        rw [div_int (by decide) (by decide)]
        walk_at "ev"
        rw [nb]
        rfl
      · simp only [forL]
        walk_at "ev"
        rw [at2]
        walk_at "ev"
        rw [show idxOf 3 (.int 2) = some 2 from rfl]
        walk_at "ev"
        rw [mul_ok 1 31 (by decide) (by decide) (by decide)]
        walk_at "ev"
        rw [at1, at2]
        walk_at "ev"
        rw [ex]
        walk_at "ev"
        rw [Int.zero_mul, Int.zero_add]
      · walk_at "ev"
        rw [mod_int n0]
        walk_at "ev"
/-! the script's first cell, the generator at its start -/
theorem cell (H : fnOf fs "_law_cell" = some w_cell) {ns : List Int} {i : Nat} (h : i < ns.length) : callF fs fuel (k + 1) "_law_cell" [.val (frnD (ns.map .int)), .val (.int i)] = some (.fz (.int (ns[i])), []) := by
  refine call_of H ?_
  have h1 : decide ((i : Int) < ((ns.map PyData.int).length : Int)) = true := by simp [h]
  unfold w_cell
  walk_at "ev"
  rw [h1]
  walk_at "ev"
  rw [show idxV (frnD (ns.map PyData.int)) (.int i) = L2.atI (ns.map PyData.int) (i : Int) from rfl]
  unfold L2.atI
  rw [ixN_lt (by simpa using h)]
  simp only [Option.bind_some, List.getElem?_map, List.getElem?_eq_getElem h, Option.map_some]
  walk_at "ev"
theorem cut1 (xs : List PD) : cutD xs none (some 1) = xs.take 1 := by
  unfold cutD
  rw [show HT.sIx xs.length xs.length (some 1) = min 1 xs.length from HT.sIx_nat _ _ 1]
  show (xs.drop 0).take (min 1 xs.length - 0) = _
  cases xs <;> simp
theorem cellS (H : fnOf fs "_law_cell" = some w_cell) (ns : List Int) (i : Nat) : ∃ s : Int, callF fs fuel (k + 1) "_law_cell" [.val (frnD (ns.map .int)), .val (.int i)] = some (.fz (.int s), []) := by
  by_cases h : i < ns.length
  · exact ⟨_, cell H h⟩
  refine ⟨(ns.take 1).sum % 1000003, call_of H ?_⟩
  have h1 : decide ((i : Int) < ((ns.map PyData.int).length : Int)) = false := by simp; omega
  unfold w_cell
  walk_at "ev"
  rw [h1]
  walk_at "ev"
  have hs : slcV (frnD (ns.map PyData.int)) none (some 1) = some (.list ((ns.take 1).map PyData.int)) := by
    show some (PyData.list (cutD (ns.map PyData.int) none (some 1))) = _
    rw [cut1, ← List.map_take]
  rw [hs]
  walk_at "ev"
  have h2 : bltV .sum [.list ((ns.take 1).map PyData.int)] = some (.int (ns.take 1).sum) := by
    show (intsD _).map _ = _
    rw [intsD_map]
    rfl
  rw [h2]
  walk_at "ev"
  rw [mod_int (by decide)]
  walk_at "ev"
/-- a generator that may be drawn from m times more or less -/
structure Gen (m : Nat) (g : T) : Prop where
  ex : ∃ a b c : Int, g = gen a b c ∧ 0 ≤ b ∧ b < 2 ^ 31 ∧ 0 ≤ c ∧ c ≤ m
theorem Gen.mono {m m' : Nat} {g : T} (h : Gen m g) (l : m ≤ m') : Gen m' g := by
  obtain ⟨a, b, c, e, h1, h2, h3, h4⟩ := h.ex
  exact ⟨a, b, c, e, h1, h2, h3, by omega⟩
theorem Gen.own {m : Nat} {g : T} (h : Gen m g) : ∃ xs, g = .own xs := by
  obtain ⟨a, b, c, rfl, _⟩ := h.ex
  exact ⟨_, rfl⟩
theorem drawn (H : Rand fs) {g : T} {m n : Nat} (h : Gen m g) (hm : m < 2 ^ 64) (hn : 0 < n) (hn2 : n < 2 ^ 29) :
    ∃ (r : Nat) (g' : T), r < n ∧ Gen (m + 1) g' ∧ callF fs fuel (k + 2) "_law_random" [.io g, .val (.int n)] = some (.fz (.int r), [g']) := by
  obtain ⟨a, b, c, rfl, h1, h2, h3, h4⟩ := h.ex
  have hm' : (m : Int) < 2 ^ 299 := Int.lt_trans (b := 2 ^ 64) (by exact_mod_cast hm) (by decide)
  obtain ⟨r, a', c', q1, q2, q3, q4⟩ := random (fuel := fuel) (k := k) H h1 h2 h3 h4 hm' hn hn2 (a := a)
  exact ⟨r, gen a' b c', q1, ⟨a', b, c', rfl, h1, h2, q2, by omega⟩, q4⟩
theorem pow_int {i j r : Int} (h : 0 ≤ j ∧ (Builtin.Int.intBits i : Int) * j ≤ 2 ^ 27) (hr : i ^ j.toNat = r) : binV .Pow (.int i) (.int j) = some (.int r) := by
  subst hr
  exact if_pos h
theorem generator (H : fnOf fs "_law_cell" = some w_cell) (H2 : fnOf fs "_law_generator" = some w_generator) (ns : List Int) (i : Nat) (hi : i < 2 ^ 20) :
    ∃ g : T, Gen (1000 * i) g ∧ callF fs fuel (k + 2) "_law_generator" [.val (frnD (ns.map .int)), .val (.int i)] = some (g, []) := by
  obtain ⟨s, es⟩ := cellS (fs := fs) (fuel := fuel) (k := k) H ns i
  have es := cd_of (c := callF fs fuel (k + 1)) (ds := [frnD (ns.map .int), .int i]) es
  have p1 : binV .Pow (.int 10) (.int 18) = some (.int (10 ^ 18)) := pow_int (by decide +kernel) rfl
  have p2 : binV .Pow (.int 10) (.int 60) = some (.int (10 ^ 60)) := pow_int (by decide +kernel) rfl
  have p3 : binV .Pow (.int (10 ^ 60)) (.int 10) = some (.int ((10 ^ 60) ^ 10)) := pow_int (by decide +kernel) rfl
  have m1 := mul_ok (i := 1000) (j := (i : Int)) 10 20 (by decide) (by simpa using hi) (by decide)
  refine ⟨gen ((if (0 : Int) > s - 10 ^ 18 then 0 else s - 10 ^ 18) % (10 ^ 60) ^ 10) (s % 2147483647) (1000 * i), ⟨_, _, _, rfl, Int.emod_nonneg _ (by decide), Int.lt_trans (Int.emod_lt_of_pos _ (by decide)) (by decide), by omega, by omega⟩, call_of H2 ?_⟩
  unfold w_generator gen
  walk_at "ev"
  rw [es]
  walk_at "ev"
  rw [p1]
  walk_at "ev"
  rw [p2]
  walk_at "ev"
  rw [p3]
  walk_at "ev"
  rw [mod_int (by decide)]
  walk_at "ev"
  rw [mod_int (by decide)]
  walk_at "ev"
  rw [m1]
  walk_at "ev"
  rfl
end Lib
set_option maxRecDepth 100000
set_option maxHeartbeats 4000000
/-! LibG: drawn orders; copies; exact likeness. -/
namespace Lib
open PySem Eng
variable {fs : List FnD} {fuel k : Nat}
local macro_rules | `(tactic| walk_at "ev") => `(tactic| try simp -implicitDefEqProofs only [runF, Nat.zero_le, nd1, exSs, exS, evX, evXs, evAs, itX, evV, evVs, evBop, itV, look, sl, put, puts, fEnv, dEnv, fSl, dSl, Sl.t, Sl.put, T.data, T.datas, scal, truth_bool, truth_int, truth_none, truth_list, len_list, len_frn, int_int, list_list, max_int, cmp_lt, cmp_le, cmp_gt, cmp_ge, add_int, sub_int, isi_int, isi_list, isi_none, eq_int, ne_int, eq_bool, ne_bool, eq_nil, ne_nil, partE, partV, iosBack, slOf, bindT, bindD, clr, tgIx, arOf, iosOf, back, ownAt, List.map_cons, List.map_nil, List.length_cons, List.length_nil, List.getElem?_cons_zero, List.getElem?_cons_succ, List.getElem?_nil, List.cons_append, List.nil_append, List.append_nil, List.replicate, Option.join_some, Option.join_none, Option.bind_some, Option.bind_none, Option.map_some, Option.map_none, List.set_cons_zero, List.set_cons_succ, if_true, ite_true, ite_false, Nat.sub_self, List.any_cons, List.any_nil, isTy, Bool.or_false, Bool.false_or, Bool.or_true, Bool.true_or, Bool.not_true, Bool.not_false, beq_self_eq_true, Option.isSome_some, Nat.reduceAdd, Nat.reduceSub, Nat.reduceEqDiff, Bool.false_eq_true, reduceIte, Bool.and_self, Bool.true_and, Bool.and_true, Bool.false_and, Bool.and_false, Bool.true_eq_false, decide_true, decide_false, Bool.true_beq, Bool.false_beq])
def il (ns : List Int) : List PD := ns.map PyData.int
def iT (ns : List Int) : List T := ns.map fun n => .fz (.int n)
theorem iT_data (ns : List Int) : T.datas (iT ns) = il ns := datas_map _ _
theorem iT_len (ns : List Int) : (iT ns).length = ns.length := by simp [iT]
theorem il_fzs (ns : List Int) : fzs (il ns) = iT ns := by simp [fzs, il, iT]
theorem il_scal (ns : List Int) : (il ns).all scal = true := by simp [il, scal]
theorem dp_il (ns : List Int) : Dp 1 (.list (il ns)) := dp_list fun x hx => by
  obtain ⟨d, _, rfl⟩ := List.mem_map.mp hx
  exact dp_int _
theorem ne_il (ns : List Int) : cmpV .NotEq (.list (il ns)) (.list []) = some (.bool (!ns.isEmpty)) := by
  show (if shp (.list (il ns)) && shp (.list []) then some (PyData.bool (!PyData.eqv (.list (il ns)) (.list []))) else none) = _
  rw [shp_of (dp_il _) (by decide), shp_nil, eqv_nil]
  cases ns <;> rfl
theorem erase_perm {α : Type} {l : List α} {r : Nat} (h : r < l.length) : (l[r] :: l.eraseIdx r).Perm l := by
  have e : l = l.take r ++ (l[r] :: l.drop (r + 1)) := by rw [← List.drop_eq_getElem_cons h, List.take_append_drop]
  rw [List.eraseIdx_eq_take_drop_succ]
  conv => rhs; rw [e]
  exact List.perm_middle.symm
theorem while_t {t : TEnv → Option Bool} {f : TEnv → Option Out} {n : Nat} {env env1 : TEnv} {o : Option Out} (h1 : t env = some true) (h2 : f env = some (.nx env1)) (h3 : whileL t f n env1 = o) : whileL t f (n + 1) env = o := by
  simp only [whileL, h1, h2, Option.bind_some, if_true, h3]
theorem while_f {t : TEnv → Option Bool} {f : TEnv → Option Out} {n : Nat} {env : TEnv} (h1 : t env = some false) : whileL t f (n + 1) env = some (.nx env) := by
  simp only [whileL, h1, Option.bind_some, Bool.false_eq_true, if_false]
theorem order_loop (H : Rand fs) {x1 : Sl} {L : Nat} (hL : L < 2 ^ 20) : ∀ (n w : Nat) (left found : List Int) (g : T) (m : Nat), left.length = n → n < w → found.length + n ≤ L → Gen m g → m + n < 2 ^ 64 →
    ∃ (ys : List Int) (g' : T), ys.Perm left ∧ Gen (m + n) g' ∧ whileL (fun env => (evV (cD (callF fs fuel (k + 2))) (.cmp .NotEq (.var 2) (.lst .nil)) (dEnv env)).bind truth)
      (fun env => exSs (callF fs fuel (k + 2)) fuel (.cons (.app 3 (.pop 2 (.call "_law_random" (.io 0 (.val (.sc (.blt .len (.cons (.var 2) .nil))) .nil))))) .nil) env) w [some (.pin g), some x1, some (.val (.own (iT left))), some (.val (.own (iT found)))] =
      some (.nx [some (.pin g'), some x1, some (.val (.own [])), some (.val (.own (iT (found ++ ys))))]) := by
  intro n
  induction n with
  | zero =>
    intro w left found g m hl hw hf hg hm
    have : left = [] := List.length_eq_zero_iff.mp hl
    subst this
    obtain ⟨w, rfl⟩ : ∃ w', w = w' + 1 := ⟨w - 1, by omega⟩
    refine ⟨[], g, .nil, hg, ?_⟩
    refine (while_f ?_).trans (by rw [List.append_nil]; rfl)
    walk_at "ev"
    rw [iT_data, ne_il]
    rfl
  | succ n ih =>
    intro w left found g m hl hw hf hg hm
    obtain ⟨w, rfl⟩ : ∃ w', w = w' + 1 := ⟨w - 1, by omega⟩
    obtain ⟨r, g', hr, hg', er⟩ := drawn (fuel := fuel) (k := k) H hg (by omega) (n := left.length) (by omega) (by omega)
    have hr' : r < left.length := hr
    obtain ⟨ys, g2, hp, hg2, e2⟩ := ih w (left.eraseIdx r) (found ++ [left[r]]) g' (m + 1) (by rw [List.length_eraseIdx_of_lt hr']; omega) (by omega) (by simp; omega) hg' (by omega)
    refine ⟨left[r] :: ys, g2, (List.Perm.cons _ hp).trans (erase_perm hr'), by rw [show m + (n + 1) = m + 1 + n by omega]; exact hg2, ?_⟩
    have hne : left.isEmpty = false := by
      cases left with
      | nil => simp at hl
      | cons a l => rfl
    rw [List.append_assoc] at e2
    rw [← show [left[r]] ++ ys = left[r] :: ys from rfl, ← e2]
    obtain ⟨gs, rfl⟩ := hg.own
    obtain ⟨gs', rfl⟩ := hg'.own
    have e1 : (iT left)[r]? = some (.fz (.int left[r])) := by simp [iT, hr']
    have e3 : (iT left).eraseIdx r = iT (left.eraseIdx r) := by
      unfold iT
      rw [List.eraseIdx_eq_take_drop_succ, List.eraseIdx_eq_take_drop_succ, List.map_append, List.map_take, List.map_drop]
    have e4 : iT found ++ [.fz (.int left[r])] = iT (found ++ [left[r]]) := by simp [iT]
    have hz : -(2 ^ 63) ≤ (r : Int) ∧ (r : Int) < 2 ^ 63 := by omega
    have hb : (iT found).length < big := by
      have : (2 ^ 20 : Nat) < big := by decide
      rw [iT_len]
      omega
    refine while_t ?_ ?_ rfl
    · walk_at "ev"
      rw [iT_data, ne_il, hne]
      rfl
    · refine ex_last ?_
      walk_at "ev"
      rw [iT_data, show (il left).length = left.length by simp [il]]
      rw [er]
      walk_at "ev"
      rw [if_pos hz, iT_len, ixN_lt hr']
      walk_at "ev"
      rw [e1, e3]
      walk_at "ev"
      rw [if_pos hb, e4]
theorem drawn_order (H : Rand fs) (H2 : fnOf fs "_law_drawn_order" = some w_drawn_order) {g : T} {m : Nat} {ns : List Int} (hg : Gen m g) (hL : ns.length < 2 ^ 20) (hw : ns.length < fuel) (hm : m + ns.length < 2 ^ 64) :
    ∃ (ys : List Int) (g' : T), ys.Perm ns ∧ Gen (m + ns.length) g' ∧ callF fs fuel (k + 3) "_law_drawn_order" [.io g, .val (.list (il ns))] = some (.own (iT ys), [g']) := by
  obtain ⟨ys, g', hp, hg', e⟩ := order_loop (fuel := fuel) (k := k) H (x1 := .val (.fz (.list (il ns)))) hL ns.length fuel ns [] g m rfl hw (by simp) hg hm
  refine ⟨ys, g', hp, hg', call_of H2 (run_rt (env0 := [some (.pin g), some (.val (.fz (.list (il ns)))), none, none]) (env := [some (.pin g'), some (.val (.fz (.list (il ns)))), some (.val (.own [])), none]) rfl rfl ?_ rfl)⟩
  refine ex_seq (env1 := [some (.pin g), some (.val (.fz (.list (il ns)))), some (.val (.own (iT ns))), some (.val (.own (iT [])))]) ?_ (ex_seq (env1 := [some (.pin g'), some (.val (.fz (.list (il ns)))), some (.val (.own [])), some (.val (.own (iT ys)))]) ?_ (ex_ret ?_))
  · walk_at "ev"
    rw [il_scal, il_fzs]
    rfl
  · exact e
  · walk_at "ev"
/-! ### plain data: copies, exact likeness -/
inductive Pl : Nat → PD → Prop
  | none {n : Nat} : Pl n .none
  | int {n : Nat} (i : Int) : Pl n (.int i)
  | list {n : Nat} {xs : List PD} : (∀ x ∈ xs, Pl n x) → xs.length < 2 ^ 20 → Pl (n + 1) (.list xs)
theorem boolsD_true : ∀ (n : Nat), boolsD (List.replicate n (.bool true)) = some (List.replicate n true)
  | 0 => rfl
  | n + 1 => by
    simp only [List.replicate_succ, boolsD, boolsD_true n, Option.map_some]
theorem all_true (n : Nat) : bltV .all [.list (List.replicate n (.bool true))] = some (.bool true) := by
  show (boolsD _).map _ = _
  rw [boolsD_true]
  simp
theorem idx_get {xs : List PD} {j : Nat} {x : PD} (h : xs[j]? = some x) : idxV (.list xs) (.int (j : Int)) = some x := by
  obtain ⟨hj, _⟩ := List.getElem?_eq_some_iff.mp h
  show L2.atI xs (j : Int) = _
  unfold L2.atI
  rw [ixN_lt hj]
  exact h
theorem compD_enum {f : PD → Option (Option PD)} {y : PD} : ∀ {xs : List PD} {k : Nat}, (∀ i x, xs[i]? = some x → f (.tuple [.int ((k + i : Nat) : Int), x]) = some (some y)) → compD f (enumD k xs) = some (List.replicate xs.length y)
  | [], _, _ => rfl
  | x :: xs, k, h => by
    have e1 := h 0 x rfl
    have e2 := compD_enum (xs := xs) (k := k + 1) fun i z hz => by
      have := h (i + 1) z hz
      rw [show k + (i + 1) = k + 1 + i by omega] at this
      exact this
    rw [Nat.add_zero] at e1
    simp only [enumD, compD, e1, e2, List.length_cons, List.replicate_succ]
theorem exact_refl (H : fnOf fs "_law_exact" = some w_exact) : ∀ (n : Nat) (d : PD), Pl n d → ∀ k, callF fs fuel (k + n + 1) "_law_exact" [.val d, .val d] = some (.fz (.bool true), []) := by
  intro n
  induction n with
  | zero =>
    intro d h k
    refine call_of H ?_
    unfold w_exact
    cases h with
    | none =>
      walk_at "ev"
      rfl
    | int i =>
      walk_at "ev"
  | succ n ih =>
    intro d h k
    cases h with
    | none =>
      refine call_of H ?_
      unfold w_exact
      walk_at "ev"
      rfl
    | int i =>
      refine call_of H ?_
      unfold w_exact
      walk_at "ev"
    | list hx hl =>
      rename_i xs
      refine call_of H ?_
      have hb : xs.length < big := Nat.lt_trans hl (by decide)
      have el : (enumD 0 xs).length = xs.length := enumD_length xs 0
      unfold w_exact
      walk_at "ev"
      rw [el, if_pos hb, compD_enum (y := .bool true) fun i x hxi => ?_]
      · walk_at "ev"
        rw [all_true]
        walk_at "ev"
      · have e := cd_of (c := callF fs fuel (k + (n + 1))) (ds := [x, x]) (ih x (hx x (List.mem_of_getElem? hxi)) k)
        rw [Nat.zero_add]
        walk_at "ev"
        rw [idx_get hxi]
        walk_at "ev"
        rw [e]
        walk_at "ev"
end Lib
set_option maxRecDepth 100000
set_option maxHeartbeats 4000000
/-! LibH: copies; plain rotas; turned rows. -/
namespace Lib
open PySem Eng
variable {fs : List FnD} {fuel k : Nat}
local macro_rules | `(tactic| walk_at "ev") => `(tactic| try simp -implicitDefEqProofs only [runF, Nat.zero_le, nd1, exSs, exS, evX, evXs, evAs, itX, evV, evVs, evBop, itV, look, sl, put, puts, fEnv, dEnv, fSl, dSl, Sl.t, Sl.put, T.data, T.datas, scal, truth_bool, truth_int, truth_none, truth_list, len_list, len_frn, int_int, list_list, max_int, cmp_lt, cmp_le, cmp_gt, cmp_ge, add_int, sub_int, isi_int, isi_list, isi_none, eq_int, ne_int, eq_bool, ne_bool, eq_nil, ne_nil, partE, partV, iosBack, slOf, bindT, bindD, clr, tgIx, arOf, iosOf, back, ownAt, List.map_cons, List.map_nil, List.length_cons, List.length_nil, List.getElem?_cons_zero, List.getElem?_cons_succ, List.getElem?_nil, List.cons_append, List.nil_append, List.append_nil, List.replicate, Option.join_some, Option.join_none, Option.bind_some, Option.bind_none, Option.map_some, Option.map_none, List.set_cons_zero, List.set_cons_succ, if_true, ite_true, ite_false, Nat.sub_self, List.any_cons, List.any_nil, isTy, Bool.or_false, Bool.false_or, Bool.or_true, Bool.true_or, Bool.not_true, Bool.not_false, beq_self_eq_true, Option.isSome_some, Nat.reduceAdd, Nat.reduceSub, Nat.reduceEqDiff, Bool.false_eq_true, reduceIte, Bool.and_self, Bool.true_and, Bool.and_true, Bool.false_and, Bool.and_false, Bool.true_eq_false, decide_true, decide_false, Bool.true_beq, Bool.false_beq])
theorem cmpX_ex {f : PD → TEnv → Option (T × TEnv)} {h : PD → PD} {is : List Nat} {env : TEnv} : ∀ {xs : List PD}, (∀ x ∈ xs, ∃ t env1, f x env = some (t, env1) ∧ t.data = h x ∧ clr is env1 = some env) → ∃ ts, cmpX f is xs env = some (ts, env) ∧ T.datas ts = xs.map h
  | [], _ => ⟨[], rfl, rfl⟩
  | x :: xs, H => by
    obtain ⟨t, env1, a, b, c⟩ := H x List.mem_cons_self
    obtain ⟨ts, e1, e2⟩ := cmpX_ex (h := h) fun y hy => H y (List.mem_cons_of_mem _ hy)
    refine ⟨t :: ts, ?_, ?_⟩
    · simp only [cmpX, a, c, Option.bind_some, e1, Option.map_some]
    · simp only [T.datas, b, e2, List.map_cons]
theorem ex_iff {c : CallT} {t : E} {a b : Ss} {env : TEnv} {d : PD} {q : Bool} {o : Option Out} (h1 : evV (cD c) t (dEnv env) = some d) (h2 : truth d = some q) (h3 : (if q then exSs c fuel a env else exSs c fuel b env) = o) : exS c fuel (.iff t a b) env = o := by
  simp only [exS, h1, h2, Option.bind_some]
  exact h3
theorem ev_cmp {c : CallT} {elt : TX} {tg : Tg} {it : IX} {env env1 env2 env3 : TEnv} {ds : List PD} {ts : List T} (h1 : itX c it env = some (ds, env1)) (h2 : ds.length < big) (h3 : clr (tgIx tg) env1 = some env2) (h4 : cmpX (fun d env => (bindT tg d env).bind fun env' => evX c elt env') (tgIx tg) ds env2 = some (ts, env3)) : evX c (.cmp elt tg it) env = some (.own ts, env3) := by
  simp only [evX, h1, Option.bind_some, h2, if_true, h3, h4, Option.map_some]
theorem ex_retX {c : CallT} {x : TX} {env env1 : TEnv} {t : T} (h : evX c x env = some (t, env1)) : exS c fuel (.ret x) env = some (.rt t env1) := by
  simp only [exS, h, Option.map_some]
theorem ex_asg {c : CallT} {x : TX} {s : Nat} {env env1 env2 : TEnv} {t : T} (h : evX c x env = some (t, env1)) (h2 : put env1 s t = some env2) : exS c fuel (.asg s x) env = some (.nx env2) := by
  simp only [exS, h, Option.bind_some, h2, Option.map_some]
theorem copied (H : fnOf fs "_law_copied" = some w_copied) : ∀ (n : Nat) (d : PD), Pl n d → ∀ k, ∃ t : T, t.data = d ∧ callF fs fuel (k + n + 1) "_law_copied" [.val d] = some (t, []) := by
  intro n
  induction n with
  | zero =>
    intro d h k
    refine ⟨.fz d, rfl, call_of H ?_⟩
    unfold w_copied
    cases h <;> walk_at "ev"
  | succ n ih =>
    intro d h k
    cases h with
    | none =>
      refine ⟨.fz .none, rfl, call_of H ?_⟩
      unfold w_copied
      walk_at "ev"
    | int i =>
      refine ⟨.fz (.int i), rfl, call_of H ?_⟩
      unfold w_copied
      walk_at "ev"
    | list hx hl =>
      rename_i xs
      have hb : xs.length < big := Nat.lt_trans hl (by decide)
      obtain ⟨ts, e1, e2⟩ := cmpX_ex (f := fun d env => (bindT (.one 1) d env).bind fun env' => evX (callF fs fuel (k + (n + 1))) (.call "_law_copied" (.val (.fr (.var 1)) .nil)) env') (h := id) (is := [1]) (env := [some (.val (.fz (.list xs))), none]) (xs := xs) fun x hxm => by
        obtain ⟨t, a, b⟩ := ih x (hx x hxm) k
        refine ⟨t, [some (.val (.fz (.list xs))), some (.val (.fz x))], ?_, a, rfl⟩
        walk_at "ev"
        have b : callF fs fuel (k + (n + 1)) "_law_copied" [.val x] = some (t, []) := b
        simp only [List.nodup_nil, if_true, b, Option.bind_some, Option.map_some]
        rfl
      refine ⟨.own ts, ?_, call_of H (run_rt (env0 := [some (.val (.fz (.list xs))), none]) (env := [some (.val (.fz (.list xs))), none]) rfl rfl (ex_ret (ex_iff (d := .bool true) (q := true) ?_ rfl (ex_ret (ex_retX (ev_cmp (ds := xs) (env1 := [some (.val (.fz (.list xs))), none]) ?_ hb rfl e1))))) rfl)⟩
      · simp only [T.data, e2, List.map_id]
      · walk_at "ev"
      · walk_at "ev"
theorem plain_rota (h : fnOf fs "is_whole" = some d_is_whole) (h2 : fnOf fs "is_size" = some d_is_size) (h3 : fnOf fs "plain_rota" = some d_plain_rota) {n : Nat} (n1 : 1 ≤ n) (n2 : n ≤ 16) :
    callF fs fuel (k + 3) "plain_rota" [.val (.int n)] = some (.own (matT n n fun p d => (p + d) % n), []) := by
  have e1 := cd_of (c := callF fs fuel (k + 2)) (ds := [.int n]) (is_size (k := k) h h2 (n : Int))
  have h3' : decide ((1 : Int) ≤ (n : Int)) = true := by simp <;> omega
  have h4 : decide ((n : Int) ≤ 16) = true := by simp <;> omega
  rw [h3', h4] at e1
  have hr := rng_nat (n := n) (by omega)
  have hb : n < big := by
    have : (17 : Nat) < big := by decide
    omega
  have n0 : (0 : Int) < (n : Int) := by omega
  refine call_of h3 ?_
  unfold d_plain_rota
  walk_at "ev"
  rw [e1]
  walk_at "ev"
  rw [hr]
  walk_at "ev"
  rw [List.length_map, List.length_range, if_pos hb, cmpX_rng (g := fun p => T.own (rowT n fun d => (p + d) % n)) fun p hp => ?_]
  · rfl
  · refine ⟨[some (.val (.fz (.int n))), some (.val (.fz (.int p))), none], ?_, rfl⟩
    walk_at "ev"
    rw [hr]
    walk_at "ev"
    rw [List.length_map, List.length_range, if_pos hb]
    walk_at "ev"
    rw [cmpX_rng (g := fun d => T.fz (.int (((p + d) % n : Nat) : Int))) fun d hd => ?_]
    · rfl
    · refine ⟨[some (.val (.fz (.int n))), some (.val (.fz (.int p))), some (.val (.fz (.int d)))], ?_, rfl⟩
      walk_at "ev"
      rw [mod_int n0]
      walk_at "ev"
      rfl
theorem turned_rows (H : fnOf fs "_law_turned_rows" = some w_turned_rows) {n : Nat} {f : Nat → Nat → Nat} (h2 : n ≤ 16) : callF fs fuel (k + 1) "_law_turned_rows" [.val (.list (mat n n f))] = some (.own (matT n n fun d p => f p d), []) := by
  have hr := rng_nat (n := n) (by omega)
  have hb : n < big := by
    have : (17 : Nat) < big := by decide
    omega
  refine call_of H ?_
  unfold w_turned_rows
  walk_at "ev"
  rw [mat_len, hr]
  walk_at "ev"
  rw [List.length_map, List.length_range, if_pos hb, cmpX_rng (g := fun d => T.own (rowT n fun p => f p d)) fun d hdr => ?_]
  · rfl
  · have hdr := List.mem_range.mp hdr
    refine ⟨[some (.val (.fz (.list (mat n n f)))), some (.val (.fz (.int d))), none], ?_, rfl⟩
    walk_at "ev"
    rw [mat_len, if_pos hb]
    walk_at "ev"
    rw [show mat n n f = (List.range n).map fun p => PyData.list (row n (f p)) from rfl, cmpX_rng (g := fun p => T.fz (.int (f p d))) fun p hp => ?_]
    · walk_at "ev"
      rfl
    · refine ⟨[some (.val (.fz (.list (mat n n f)))), some (.val (.fz (.int d))), some (.val (.fz (.list (row n (f p)))))], ?_, rfl⟩
      walk_at "ev"
      rw [idx_row _ hdr]
      rfl
end Lib
set_option maxRecDepth 100000
set_option maxHeartbeats 4000000
/-! LibI: rotas: who, when; a cycle of two rows exchanged. No program here. -/
namespace Lib
theorem len_le {α : Type} [DecidableEq α] : ∀ {l l' : List α}, l.Nodup → (∀ x ∈ l, x ∈ l') → l.length ≤ l'.length
  | [], _, _, _ => Nat.zero_le _
  | a :: l, l', h, s => by
    obtain ⟨h1, h2⟩ := List.nodup_cons.mp h
    have ha := s a List.mem_cons_self
    have := len_le (l := l) (l' := l'.erase a) h2 fun x hx => (List.mem_erase_of_ne fun e => h1 (by rw [← e]; exact hx)).mpr (s x (List.mem_cons_of_mem _ hx))
    rw [List.length_erase_of_mem ha] at this
    have : 0 < l'.length := List.length_pos_of_mem ha
    rw [List.length_cons]
    omega
theorem inj_nodup {n : Nat} {f : Nat → Nat} (h : Inj n f) : ((List.range n).map f).Nodup := by
  rw [List.nodup_iff_pairwise_ne, List.pairwise_map]
  exact List.Pairwise.imp_of_mem (R := fun a b => a ≠ b) (fun {a b} ha hb hne e => hne (h a b (List.mem_range.mp ha) (List.mem_range.mp hb) e)) (List.nodup_iff_pairwise_ne.mp List.nodup_range)
theorem inj_surj {n : Nat} {f : Nat → Nat} (h : Inj n f) (hl : ∀ d, d < n → f d < n) {j : Nat} (hj : j < n) : ∃ d, d < n ∧ f d = j := by
  by_cases q : j ∈ (List.range n).map f
  · obtain ⟨d, hd, e⟩ := List.mem_map.mp q
    exact ⟨d, List.mem_range.mp hd, e⟩
  · exfalso
    have := len_le (l := j :: (List.range n).map f) (l' := List.range n) (List.nodup_cons.mpr ⟨q, inj_nodup h⟩) fun x hx => by
      rcases List.mem_cons.mp hx with e | hx
      · rw [e]
        exact List.mem_range.mpr hj
      · obtain ⟨d, hd, e⟩ := List.mem_map.mp hx
        rw [← e]
        exact List.mem_range.mpr (hl d (List.mem_range.mp hd))
    simp at this
    omega
/-- the place of j among f's values -/
theorem inv_of {n : Nat} {f : Nat → Nat} (h : Inj n f) (hl : ∀ d, d < n → f d < n) : ∃ g : Nat → Nat, ∀ j, j < n → g j < n ∧ f (g j) = j := by
  refine ⟨fun j => if q : j < n then (inj_surj h hl q).choose else 0, fun j hj => ?_⟩
  show (if q : j < n then (inj_surj h hl q).choose else 0) < n ∧ f (if q : j < n then (inj_surj h hl q).choose else 0) = j
  rw [dif_pos hj]
  exact (inj_surj h hl hj).choose_spec
theorem Lat.when {n : Nat} {f : Nat → Nat → Nat} (L : Lat n f) : ∃ h, When n f h := by
  have : ∀ p, ∃ g : Nat → Nat, p < n → ∀ j, j < n → g j < n ∧ f p (g j) = j := fun p => by
    by_cases hp : p < n
    · obtain ⟨g, hg⟩ := inv_of (L.rw_ p hp) fun d hd => L.lt p d hp hd
      exact ⟨g, fun _ => hg⟩
    · exact ⟨id, fun z => absurd z hp⟩
  exact ⟨fun p => (this p).choose, fun p j hp hj => (this p).choose_spec hp j hj⟩
theorem Lat.who {n : Nat} {f : Nat → Nat → Nat} (L : Lat n f) : ∃ g, Who n f g := by
  have : ∀ d, ∃ g : Nat → Nat, d < n → ∀ j, j < n → g j < n ∧ f (g j) d = j := fun d => by
    by_cases hd : d < n
    · obtain ⟨g, hg⟩ := inv_of (L.cl d hd) fun p hp => L.lt p d hp hd
      exact ⟨g, fun _ => hg⟩
    · exact ⟨id, fun z => absurd z hd⟩
  exact ⟨fun j d => (this d).choose j, fun j d hj hd => (this d).choose_spec hd j hj⟩
theorem Lat.turn {n : Nat} {f : Nat → Nat → Nat} (L : Lat n f) : Lat n fun d p => f p d := ⟨fun p d hp hd => L.lt d p hd hp, fun p hp => L.cl p hp, fun d hd => L.rw_ d hd⟩
/-- who has j on d: a rota of jobs by days -/
theorem Lat.jobs {n : Nat} {f g : Nat → Nat → Nat} (L : Lat n f) (W : Who n f g) : Lat n g where
  lt := fun j d hj hd => (W j d hj hd).1
  rw_ := fun j hj d d' hd hd' e => by
    obtain ⟨a, b⟩ := W j d hj hd
    obtain ⟨c, e'⟩ := W j d' hj hd'
    exact L.rw_ (g j d) a d d' hd hd' (by rw [b]; rw [← e] at e'; exact e'.symm)
  cl := fun d hd j j' hj hj' e => by
    have a := (W j d hj hd).2
    have b := (W j' d hj' hd).2
    have e : g j d = g j' d := e
    rw [← a, ← b, e]
theorem Who.back {n : Nat} {f g : Nat → Nat → Nat} (L : Lat n f) (W : Who n f g) : Who n g f := fun p d hp hd => by
  have hl := L.lt p d hp hd
  obtain ⟨a, b⟩ := W (f p d) d hl hd
  exact ⟨hl, L.cl d hd _ _ a hp b⟩
theorem Lat.books {n : Nat} {f h : Nat → Nat → Nat} (L : Lat n f) (W : When n f h) : Lat n h where
  lt := fun p j hp hj => (W p j hp hj).1
  rw_ := fun p hp j j' hj hj' e => by
    have a := (W p j hp hj).2
    have b := (W p j' hp hj').2
    rw [← a, ← b, e]
  cl := fun j hj p p' hp hp' e => by
    obtain ⟨a, b⟩ := W p j hp hj
    obtain ⟨c, d⟩ := W p' j hp' hj
    have e : h p j = h p' j := e
    exact L.cl (h p j) a p p' hp hp' (by show f p (h p j) = f p' (h p j); rw [b, e, d])
theorem When.back {n : Nat} {f h : Nat → Nat → Nat} (L : Lat n f) (W : When n f h) : When n h f := fun p d hp hd => by
  have hl := L.lt p d hp hd
  obtain ⟨a, b⟩ := W p (f p d) hp hl
  exact ⟨hl, L.rw_ p hp _ _ a hd b⟩
/-- a cycle on its way -/
structure Cyc (n : Nat) (s : Nat → Nat) (st : Nat) (ps : List Nat) (pl : Nat) : Prop where
  nd : ps.Nodup
  lt : ∀ x ∈ ps, x < n
  hst : st ∈ ps
  ex : ∃ la, la ∈ ps ∧ pl = s la ∧ (∀ x ∈ ps, x ≠ la → s x ∈ ps) ∧ ∀ x ∈ ps, x ≠ st → ∃ y ∈ ps, y ≠ la ∧ s y = x
theorem Cyc.init {n : Nat} {s : Nat → Nat} {st : Nat} (h : st < n) : Cyc n s st [st] (s st) where
  nd := by simp
  lt := fun x hx => by rw [List.mem_singleton.mp hx]; exact h
  hst := by simp
  ex := ⟨st, by simp, rfl, fun x hx hne => absurd (List.mem_singleton.mp hx) hne, fun x hx hne => absurd (List.mem_singleton.mp hx) hne⟩
theorem Cyc.step {n : Nat} {s : Nat → Nat} {st : Nat} {ps : List Nat} {pl : Nat} (hs : Inj n s) (hl : ∀ x, x < n → s x < n) (c : Cyc n s st ps pl) (hne : pl ≠ st) : Cyc n s st (ps ++ [pl]) (s pl) := by
  obtain ⟨la, a1, a2, a3, a4⟩ := c.ex
  have out : pl ∉ ps := fun h => by
    obtain ⟨y, b1, b2, b3⟩ := a4 pl h hne
    exact b2 (hs y la (c.lt y b1) (c.lt la a1) (by rw [b3, a2]))
  have hpl : pl < n := by
    rw [a2]
    exact hl la (c.lt la a1)
  refine ⟨?_, fun x hx => ?_, List.mem_append_left _ c.hst, pl, by simp, rfl, fun x hx hx2 => ?_, fun x hx hx2 => ?_⟩
  · rw [List.nodup_append]
    exact ⟨c.nd, by simp, fun x hx y hy e => out (by rw [← List.mem_singleton.mp hy, ← e]; exact hx)⟩
  · rcases List.mem_append.mp hx with q | q
    · exact c.lt x q
    · rw [List.mem_singleton.mp q]
      exact hpl
  · rcases List.mem_append.mp hx with q | q
    · by_cases e : x = la
      · rw [e, ← a2]
        simp
      · exact List.mem_append_left _ (a3 x q e)
    · exact absurd (List.mem_singleton.mp q) hx2
  · rcases List.mem_append.mp hx with q | q
    · obtain ⟨y, b1, b2, b3⟩ := a4 x q hx2
      exact ⟨y, List.mem_append_left _ b1, fun e => out (by rw [← e]; exact b1), b3⟩
    · exact ⟨la, List.mem_append_left _ a1, fun e => out (by rw [← e]; exact a1), by rw [List.mem_singleton.mp q, a2]⟩
theorem Cyc.done {n : Nat} {s : Nat → Nat} {st : Nat} {ps : List Nat} {pl : Nat} (c : Cyc n s st ps pl) (e : pl = st) : (∀ x ∈ ps, s x ∈ ps) ∧ ∀ x ∈ ps, ∃ y ∈ ps, s y = x := by
  obtain ⟨la, a1, a2, a3, a4⟩ := c.ex
  refine ⟨fun x hx => ?_, fun x hx => ?_⟩
  · by_cases q : x = la
    · rw [q, ← a2, e]
      exact c.hst
    · exact a3 x hx q
  · by_cases q : x = st
    · exact ⟨la, a1, by rw [← a2, e, q]⟩
    · obtain ⟨y, b1, _, b3⟩ := a4 x hx q
      exact ⟨y, b1, b3⟩
/-- the two rows exchanged along the cycle -/
def swz (f : Nat → Nat → Nat) (a b : Nat) (ps : List Nat) : Nat → Nat → Nat := fun p d => if p = a then (if d ∈ ps then f b d else f a d) else if p = b then (if d ∈ ps then f a d else f b d) else f p d
theorem Lat.swz {n : Nat} {f : Nat → Nat → Nat} {a b : Nat} {ps : List Nat} {s : Nat → Nat} (L : Lat n f) (ha : a < n) (hb : b < n) (hab : a ≠ b) (hs : ∀ x, x < n → s x < n ∧ f a (s x) = f b x) (h1 : ∀ x ∈ ps, s x ∈ ps) (h2 : ∀ x ∈ ps, ∃ y ∈ ps, s y = x) (hl : ∀ x ∈ ps, x < n) : Lat n (swz f a b ps) := by
  have sinj : ∀ x y, x < n → y < n → s x = s y → x = y := fun x y hx hy e => L.rw_ b hb x y hx hy (by rw [← (hs x hx).2, ← (hs y hy).2, e])
  have one : ∀ d d', d < n → d' < n → d ∈ ps → d' ∉ ps → f b d ≠ f a d' := fun d d' hd hd' m1 m2 e => by
    have : s d = d' := L.rw_ a ha _ _ (hs d hd).1 hd' (by rw [(hs d hd).2, e])
    exact m2 (by rw [← this]; exact h1 d m1)
  have two : ∀ d d', d < n → d' < n → d ∈ ps → d' ∉ ps → f a d ≠ f b d' := fun d d' hd hd' m1 m2 e => by
    have : d = s d' := L.rw_ a ha _ _ hd (hs d' hd').1 (by rw [(hs d' hd').2, e])
    obtain ⟨y, y1, y2⟩ := h2 d m1
    have : y = d' := sinj y d' (hl y y1) hd' (by rw [y2, this])
    exact m2 (by rw [← this]; exact y1)
  refine ⟨fun p d hp hd => ?_, fun p hp d d' hd hd' e => ?_, fun d hd p q hp hq e => ?_⟩
  · unfold Lib.swz
    repeat' split
    · exact L.lt _ _ hb hd
    · exact L.lt _ _ ha hd
    · exact L.lt _ _ ha hd
    · exact L.lt _ _ hb hd
    · exact L.lt _ _ hp hd
  · unfold Lib.swz at e
    by_cases qa : p = a
    · rw [if_pos qa, if_pos qa] at e
      by_cases m1 : d ∈ ps <;> by_cases m2 : d' ∈ ps
      · rw [if_pos m1, if_pos m2] at e
        exact L.rw_ b hb _ _ hd hd' e
      · rw [if_pos m1, if_neg m2] at e
        exact absurd e (one d d' hd hd' m1 m2)
      · rw [if_neg m1, if_pos m2] at e
        exact absurd e.symm (one d' d hd' hd m2 m1)
      · rw [if_neg m1, if_neg m2] at e
        exact L.rw_ a ha _ _ hd hd' e
    · rw [if_neg qa, if_neg qa] at e
      by_cases qb : p = b
      · rw [if_pos qb, if_pos qb] at e
        by_cases m1 : d ∈ ps <;> by_cases m2 : d' ∈ ps
        · rw [if_pos m1, if_pos m2] at e
          exact L.rw_ a ha _ _ hd hd' e
        · rw [if_pos m1, if_neg m2] at e
          exact absurd e (two d d' hd hd' m1 m2)
        · rw [if_neg m1, if_pos m2] at e
          exact absurd e.symm (two d' d hd' hd m2 m1)
        · rw [if_neg m1, if_neg m2] at e
          exact L.rw_ b hb _ _ hd hd' e
      · rw [if_neg qb, if_neg qb] at e
        exact L.rw_ p hp _ _ hd hd' e
  · -- a column: two of its items are exchanged, or none
    let t : Nat → Nat := fun p => if d ∈ ps then (if p = a then b else if p = b then a else p) else p
    have tl : ∀ p, p < n → t p < n := fun p hp => by
      show (if d ∈ ps then (if p = a then b else if p = b then a else p) else p) < n
      repeat' split
      all_goals assumption
    have te : ∀ p, Lib.swz f a b ps p d = f (t p) d := fun p => by
      show Lib.swz f a b ps p d = f (if d ∈ ps then (if p = a then b else if p = b then a else p) else p) d
      unfold Lib.swz
      by_cases m : d ∈ ps
      · simp only [if_pos m]
        repeat' split
        all_goals rfl
      · simp only [if_neg m]
        split
        · rename_i q
          rw [q]
        · split
          · rename_i q
            rw [q]
          · rfl
    have e : f (t p) d = f (t q) d := by
      rw [← te, ← te]
      exact e
    have e2 := L.cl d hd _ _ (tl p hp) (tl q hq) e
    have e2 : (if d ∈ ps then (if p = a then b else if p = b then a else p) else p) = (if d ∈ ps then (if q = a then b else if q = b then a else q) else q) := e2
    repeat' split at e2
    all_goals omega
end Lib
set_option maxRecDepth 100000
set_option maxHeartbeats 4000000
/-! LibJ: rows switched; drawn rotas. -/
namespace Lib
open PySem Eng
variable {fs : List FnD} {fuel k : Nat}
local macro_rules | `(tactic| walk_at "ev") => `(tactic| try simp -implicitDefEqProofs only [runF, Nat.zero_le, nd1, exSs, exS, evX, evXs, evAs, itX, evV, evVs, evBop, itV, look, sl, put, puts, fEnv, dEnv, fSl, dSl, Sl.t, Sl.put, T.data, T.datas, scal, truth_bool, truth_int, truth_none, truth_list, len_list, len_frn, int_int, list_list, max_int, cmp_lt, cmp_le, cmp_gt, cmp_ge, add_int, sub_int, isi_int, isi_list, isi_none, eq_int, ne_int, eq_bool, ne_bool, eq_nil, ne_nil, partE, partV, iosBack, slOf, bindT, bindD, clr, tgIx, arOf, iosOf, back, ownAt, List.map_cons, List.map_nil, List.length_cons, List.length_nil, List.getElem?_cons_zero, List.getElem?_cons_succ, List.getElem?_nil, List.cons_append, List.nil_append, List.append_nil, List.replicate, Option.join_some, Option.join_none, Option.bind_some, Option.bind_none, Option.map_some, Option.map_none, List.set_cons_zero, List.set_cons_succ, if_true, ite_true, ite_false, Nat.sub_self, List.any_cons, List.any_nil, isTy, Bool.or_false, Bool.false_or, Bool.or_true, Bool.true_or, Bool.not_true, Bool.not_false, beq_self_eq_true, Option.isSome_some, Nat.reduceAdd, Nat.reduceSub, Nat.reduceEqDiff, Bool.false_eq_true, reduceIte, Bool.and_self, Bool.true_and, Bool.and_true, Bool.false_and, Bool.and_false, Bool.true_eq_false, decide_true, decide_false, Bool.true_beq, Bool.false_beq])
def nl (ns : List Nat) : List PD := ns.map fun (n : Nat) => PyData.int (n : Int)
def nT (ns : List Nat) : List T := ns.map fun (n : Nat) => T.fz (.int (n : Int))
theorem nT_data (ns : List Nat) : T.datas (nT ns) = nl ns := datas_map _ _
theorem dp_nl (ns : List Nat) : Dp 1 (.list (nl ns)) := dp_list fun x hx => by
  obtain ⟨d, _, rfl⟩ := List.mem_map.mp hx
  exact dp_int _
theorem in_nl (ns : List Nat) (d : Nat) : cmpV .In (.int (d : Int)) (.list (nl ns)) = some (.bool (decide (d ∈ ns))) := by
  show (if shp (.int (d : Int)) && shp (.list (nl ns)) then some (PyData.bool ((nl ns).any fun z => PyData.eqv z (.int (d : Int)))) else none) = _
  rw [shp_of (dp_nl _) (by decide), shp_of (dp_int _) (by decide)]
  have : ((nl ns).any fun z => PyData.eqv z (.int (d : Int))) = decide (d ∈ ns) := by
    induction ns with
    | nil => rfl
    | cons n ns ih =>
      have ih' : ((nl ns).any fun z => PyData.eqv z (.int (d : Int))) = decide (d ∈ ns) := ih
      show (PyData.eqv (.int (n : Int)) (.int (d : Int)) || (nl ns).any fun z => PyData.eqv z (.int (d : Int))) = _
      rw [ih']
      show (((n : Int) == (d : Int)) || decide (d ∈ ns)) = _
      by_cases q : n = d
      · subst q
        simp
      · have q1 : ((n : Int) == (d : Int)) = false := by
          simp
          exact_mod_cast q
        have q2 : ¬ d = n := fun z => q z.symm
        rw [q1]
        simp [q2]
  rw [this]
  rfl
theorem eq_nat (i j : Nat) : cmpV .Eq (.int (i : Int)) (.int (j : Int)) = some (.bool (decide (i = j))) := by
  rw [eq_int]
  by_cases q : i = j
  · subst q
    simp
  · have : ((i : Int) == (j : Int)) = false := by
      simp
      exact_mod_cast q
    rw [this]
    simp [q]
theorem ne_nat (i j : Nat) : cmpV .NotEq (.int (i : Int)) (.int (j : Int)) = some (.bool (!decide (i = j))) := by
  rw [ne_int]
  by_cases q : i = j
  · subst q
    simp
  · have : ((i : Int) == (j : Int)) = false := by
      simp
      exact_mod_cast q
    rw [this]
    simp [q]
abbrev vz (d : PD) : Option Sl := some (.val (.fz d))
abbrev vn (n : Nat) : Option Sl := some (.val (.fz (.int (n : Int))))
theorem index_of {n : Nat} {f : Nat → Nat → Nat} {a b d x : Nat} {c : CallD} {env : DEnv} {ev : E} (L : Lat n f) (ha : a < n) (hb : b < n) (hd : d < n) (hx : x < n) (e : f a x = f b d) (h1 : look env 1 = some (.list (mat n n f))) (h6 : look env 6 = some (.int (a : Int))) (h7 : look env 7 = some (.int (b : Int))) (hv : evV c ev env = some (.int (d : Int))) :
    evV c (.index (.idx (.var 1) (.var 6)) (.idx (.idx (.var 1) (.var 7)) ev)) env = some (.int (x : Int)) := by
  have := index_row (L.rw_ a ha) hx
  rw [e] at this
  simp -implicitDefEqProofs only [evV, h1, h6, h7, hv, Option.bind_some, idx_mat f ha, idx_mat f hb, idx_row (f b) hd]
  exact this
theorem cyc_loop {c : CallT} {n : Nat} {f : Nat → Nat → Nat} {a b st : Nat} {s : Nat → Nat} {g : T} {fu : Nat} (L : Lat n f) (hn : n ≤ 16) (ha : a < n) (hb : b < n) (hs : ∀ x, x < n → s x < n ∧ f a (s x) = f b x) :
    ∀ (m w : Nat) (ps : List Nat) (pl : Nat), Cyc n s st ps pl → n - ps.length ≤ m → m < w → ∃ ps', Cyc n s st ps' st ∧ whileL (fun env => (evV (cD c) (.cmp .NotEq (.var 9) (.var 3)) (dEnv env)).bind truth) (fun env => exSs c fu (.cons (.app 8 (.fr (.var 9))) (.cons (.asg 9 (.fr (.index (.idx (.var 1) (.var 6)) (.idx (.idx (.var 1) (.var 7)) (.var 9))))) .nil)) env) w
      [some (.pin g), vz (.list (mat n n f)), vn n, vn st, none, none, vn a, vn b, some (.val (.own (nT ps))), vn pl, none, none, none] = some (.nx [some (.pin g), vz (.list (mat n n f)), vn n, vn st, none, none, vn a, vn b, some (.val (.own (nT ps'))), vn st, none, none, none]) := by
  have sl : ∀ x, x < n → s x < n := fun x hx => (hs x hx).1
  have si : Inj n s := fun x y hx hy e => L.rw_ b hb x y hx hy (by rw [← (hs x hx).2, ← (hs y hy).2, e])
  intro m
  induction m with
  | zero =>
    intro w ps pl hc hm hw
    obtain ⟨w, rfl⟩ : ∃ w', w = w' + 1 := ⟨w - 1, by omega⟩
    have e : pl = st := by
      refine Classical.byContradiction fun hne => ?_
      have h2 := hc.step si sl hne
      have := len_le (l := ps ++ [pl]) (l' := List.range n) h2.nd fun x hx => List.mem_range.mpr (h2.lt x hx)
      rw [List.length_append, List.length_singleton, List.length_range] at this
      omega
    subst e
    refine ⟨ps, hc, while_f ?_⟩
    walk_at "ev"
  | succ m ih =>
    intro w ps pl hc hm hw
    obtain ⟨w, rfl⟩ : ∃ w', w = w' + 1 := ⟨w - 1, by omega⟩
    by_cases e : pl = st
    · subst e
      refine ⟨ps, hc, while_f ?_⟩
      walk_at "ev"
    · have hpl : pl < n := by
        obtain ⟨la, a1, a2, _⟩ := hc.ex
        rw [a2]
        exact sl la (hc.lt la a1)
      obtain ⟨ps', hc', e2⟩ := ih w (ps ++ [pl]) (s pl) (hc.step si sl e) (by rw [List.length_append, List.length_singleton]; omega) (by omega)
      have hps : ps.length ≤ n := by
        have := len_le (l := ps) (l' := List.range n) hc.nd fun x hx => List.mem_range.mpr (hc.lt x hx)
        simpa using this
      have hb2 : (nT ps).length < big := by
        have : (17 : Nat) < big := by decide
        simp [nT]
        omega
      refine ⟨ps', hc', while_t ?_ ?_ e2⟩
      · have q : ((pl : Int) == (st : Int)) = false := by
          simp
          exact_mod_cast e
        walk_at "ev"
        rw [q]
        rfl
      · refine ex_seq (env1 := [some (.pin g), vz (.list (mat n n f)), vn n, vn st, none, none, vn a, vn b, some (.val (.own (nT (ps ++ [pl])))), vn pl, none, none, none]) ?_ (ex_last (ex_asg (t := .fz (.int (s pl : Int))) (env1 := [some (.pin g), vz (.list (mat n n f)), vn n, vn st, none, none, vn a, vn b, some (.val (.own (nT (ps ++ [pl])))), vn pl, none, none, none]) ?_ rfl))
        · walk_at "ev"
          rw [if_pos hb2]
          simp [nT]
        · simp -implicitDefEqProofs only [evX]
          rw [index_of (d := pl) (x := s pl) L ha hb hpl (sl pl hpl) (hs pl hpl).2 rfl rfl rfl rfl]
          rfl
theorem ev_io {c : CallT} {f : Str} {env : TEnv} {x : TX} {s : Nat} {u : Sl} {tx t g' : T} (h0 : sl env s = some u) (hx : evX c x env = some (tx, env)) (hc : c f [.io u.t, .val tx.data] = some (t, [g'])) :
    evX c (.call f (.io s (.val x .nil))) env = some (t, env.set s (some (u.put g'))) := by
  simp only [evX, evAs, h0, hx, arOf, iosOf, nd1, hc, back, Option.bind_some, Option.map_some, if_true]
theorem ex_par {c : CallT} {x1 x2 : TX} {s1 s2 : Nat} {env env1 env2 env3 env4 : TEnv} {t1 t2 : T} (h1 : evX c x1 env = some (t1, env1)) (h2 : evX c x2 env1 = some (t2, env2)) (hne : s1 ≠ s2) (h3 : put env2 s1 t1 = some env3) (h4 : put env3 s2 t2 = some env4) : exS c fuel (.par s1 s2 x1 x2) env = some (.nx env4) := by
  simp only [exS, h1, h2, Option.bind_some, if_neg hne, h3, h4, Option.map_some]
theorem ex_frz {c : CallT} {s : Nat} {env : TEnv} {t : T} (h : sl env s = some (.val t)) : exS c fuel (.frz s) env = some (.nx (env.set s (some (.val (.fz t.data))))) := by
  simp only [exS, h]
theorem evV_lc {c : CallD} {elt : E} {tg : Tg} {it : It} {env : DEnv} {ds rs : List PD} (h1 : itV c it env = some ds) (h2 : ds.length < big) (h3 : compD (fun d => (bindD tg d env).bind fun env' => (evV c elt env').map some) ds = some rs) : evV c (.lc elt tg it) env = some (.list rs) := by
  simp only [evV, h1, Option.bind_some, h2, if_true, h3, Option.map_some]
theorem rows_switched (H : Rand fs) (H2 : fnOf fs "_law_rows_switched" = some w_rows_switched) {g : T} {m n : Nat} {f : Nat → Nat → Nat} (hg : Gen m g) (n1 : 1 ≤ n) (n2 : n ≤ 16) (L : Lat n f) (hm : m < 2 ^ 40) (hf : 17 < fuel) :
    ∃ (f' : Nat → Nat → Nat) (t g' : T), Lat n f' ∧ Gen (m + 3) g' ∧ t.data = .list (mat n n f') ∧ callF fs fuel (k + 3) "_law_rows_switched" [.io g, .val (.list (mat n n f))] = some (t, [g']) := by
  obtain ⟨a, ga, ha, hga, ea⟩ := drawn (fuel := fuel) (k := k) H hg (by omega) (n := n) (by omega) (by omega)
  obtain ⟨b, gb, hb, hgb, eb⟩ := drawn (fuel := fuel) (k := k) H hga (by omega) (n := n) (by omega) (by omega)
  obtain ⟨st, gc, hst, hgc, ec⟩ := drawn (fuel := fuel) (k := k) H hgb (by omega) (n := n) (by omega) (by omega)
  let E0 : T → TEnv := fun g => [some (.pin g), vz (.list (mat n n f)), vn n, none, none, none, none, none, none, none, none, none, none]
  let E1 : T → TEnv := fun g => [some (.pin g), vz (.list (mat n n f)), vn n, none, none, none, vn a, vn b, none, none, none, none, none]
  have s1 : exS (callF fs fuel (k + 2)) fuel (.asg 2 (.fr (.blt .len (.cons (.var 1) .nil)))) [some (.pin g), vz (.list (mat n n f)), none, none, none, none, none, none, none, none, none, none, none] = some (.nx (E0 g)) := by
    walk_at "ev"
    rw [mat_len]
  have s2 : exS (callF fs fuel (k + 2)) fuel (.par 6 7 (.call "_law_random" (.io 0 (.val (.fr (.var 2)) .nil))) (.call "_law_random" (.io 0 (.val (.fr (.var 2)) .nil)))) (E0 g) = some (.nx (E1 gb)) :=
    ex_par (env1 := E0 ga) (env2 := E0 gb) (ev_io (u := .pin g) (tx := .fz (.int n)) rfl (by walk_at "ev"; rfl) ea) (ev_io (env := E0 ga) (u := .pin ga) (tx := .fz (.int n)) rfl (by walk_at "ev"; rfl) eb) (by decide) rfl rfl
  have s5 : ∀ q : Bool, decide (a = b) = q → evV (cD (callF fs fuel (k + 2))) (.cmp .Eq (.var 6) (.var 7)) (dEnv (E1 gb)) = some (.bool q) := fun q hq => by
    rw [← hq, ← eq_nat]
    rfl
  by_cases hab : a = b
  · refine ⟨f, .fz (.list (mat n n f)), gb, L, hgb.mono (by omega), rfl, call_of H2 (run_rt (env0 := [some (.pin g), vz (.list (mat n n f)), none, none, none, none, none, none, none, none, none, none, none]) (env := E1 gb) rfl rfl (ex_seq s1 (ex_seq s2 (ex_seq (ex_frz rfl) (ex_seq (ex_frz rfl) (ex_ret (ex_iff (s5 true (by simp [hab])) rfl (ex_ret (ex_retX ?_)))))))) rfl)⟩
    walk_at "ev"
    rfl
  · obtain ⟨s, hs⟩ : ∃ s : Nat → Nat, ∀ x, x < n → s x < n ∧ f a (s x) = f b x := by
      obtain ⟨w, hw⟩ := inv_of (L.rw_ a ha) fun d hd => L.lt a d ha hd
      exact ⟨fun x => w (f b x), fun x hx => hw (f b x) (L.lt b x hb hx)⟩
    have sl : ∀ x, x < n → s x < n := fun x hx => (hs x hx).1
    obtain ⟨ps, hc, ew⟩ := cyc_loop (c := callF fs fuel (k + 2)) (g := gc) (fu := fuel) (st := st) L n2 ha hb hs n fuel [st] (s st) (Cyc.init hst) (by omega) (by omega)
    obtain ⟨d1, d2⟩ := hc.done rfl
    let E2 : T → TEnv := fun g => [some (.pin g), vz (.list (mat n n f)), vn n, vn st, none, none, vn a, vn b, none, none, none, none, none]
    let E3 : List Nat → Nat → TEnv := fun ps pl => [some (.pin gc), vz (.list (mat n n f)), vn n, vn st, none, none, vn a, vn b, some (.val (.own (nT ps))), vn pl, none, none, none]
    let one : Nat → Nat := fun d => if d ∈ ps then f b d else f a d
    let two : Nat → Nat := fun d => if d ∈ ps then f a d else f b d
    let E4 : Option Sl → Option Sl → TEnv := fun x4 x5 => [some (.pin gc), vz (.list (mat n n f)), vn n, vn st, x4, x5, vn a, vn b, vz (.list (nl ps)), vn st, none, none, none]
    have s6 : exS (callF fs fuel (k + 2)) fuel (.asg 3 (.call "_law_random" (.io 0 (.val (.fr (.var 2)) .nil)))) (E1 gb) = some (.nx (E2 gc)) :=
      ex_asg (env1 := E1 gc) (ev_io (env := E1 gb) (u := .pin gb) (tx := .fz (.int n)) rfl (by walk_at "ev"; rfl) ec) rfl
    have s8 : exS (callF fs fuel (k + 2)) fuel (.par 8 9 (.lst (.cons (.fr (.var 3)) .nil)) (.fr (.index (.idx (.var 1) (.var 6)) (.idx (.idx (.var 1) (.var 7)) (.var 3))))) (E2 gc) = some (.nx (E3 [st] (s st))) :=
      ex_par (t1 := .own (nT [st])) (t2 := .fz (.int (s st : Int))) (env1 := E2 gc) (env2 := E2 gc) (by walk_at "ev"; rfl) (by simp -implicitDefEqProofs only [evX]; rw [index_of (d := st) (x := s st) L ha hb hst (sl st hst) (hs st hst).2 rfl rfl rfl rfl]; rfl) (by decide) rfl rfl
    have hbn : n < big := by
      have : (17 : Nat) < big := by decide
      omega
    have s9 : exS (callF fs fuel (k + 2)) fuel (.whl (.cmp .NotEq (.var 9) (.var 3)) (.cons (.app 8 (.fr (.var 9))) (.cons (.asg 9 (.fr (.index (.idx (.var 1) (.var 6)) (.idx (.idx (.var 1) (.var 7)) (.var 9))))) .nil))) (E3 [st] (s st)) = some (.nx (E3 ps st)) := ew
    have s10 : exS (callF fs fuel (k + 2)) fuel (.frz 8) (E3 ps st) = some (.nx (E4 none none)) := by
      rw [ex_frz (s := 8) (t := .own (nT ps)) rfl]
      show some (Out.nx [some (.pin gc), vz (.list (mat n n f)), vn n, vn st, none, none, vn a, vn b, some (.val (.fz (.list (T.datas (nT ps))))), vn st, none, none, none]) = _
      rw [nT_data]
    have en : ∀ x, enumD 0 (row n (f x)) = (List.range n).map fun (i : Nat) => PyData.tuple [.int (i : Int), .int (f x i : Int)] := fun x => enum_range (fun i => .int (f x i : Int)) n
    have elt : ∀ (x y vx vy : Nat) (env : DEnv), y < n → look env 1 = some (.list (mat n n f)) → look env 8 = some (.list (nl ps)) → look env vx = some (.int (x : Int)) → look env vy = some (.int (y : Int)) → 12 = env.length - 1 → vx < 10 → vy < 10 → 
        ∀ d, d < n → ((bindD (.two 10 11) (.tuple [.int (d : Int), .int (f x d : Int)]) env).bind fun env' => (evV (cD (callF fs fuel (k + 2))) (.ifx (.cmp .In (.var 10) (.var 8)) (.idx (.idx (.var 1) (.var vy)) (.var 10)) (.var 11)) env').map some) = some (some (.int ((if d ∈ ps then f y d else f x d : Nat) : Int))) := by
      intro x y vx vy env hy h1 h8 hx hvy hlen hl1 hl2 d hd
      have g1 : ∀ j, j < 10 → look ((env.set 10 (some (.int (d : Int)))).set 11 (some (.int (f x d : Int)))) j = look env j := fun j hj => by
        unfold look
        rw [List.getElem?_set_ne (by omega), List.getElem?_set_ne (by omega)]
      have g10 : look ((env.set 10 (some (.int (d : Int)))).set 11 (some (.int (f x d : Int)))) 10 = some (.int (d : Int)) := by
        unfold look
        rw [List.getElem?_set_ne (by omega), List.getElem?_set_self (by omega)]
        rfl
      have g11 : look ((env.set 10 (some (.int (d : Int)))).set 11 (some (.int (f x d : Int)))) 11 = some (.int (f x d : Int)) := by
        unfold look
        rw [List.getElem?_set_self (by rw [List.length_set]; omega)]
        rfl
      simp -implicitDefEqProofs only [bindD, Option.bind_some, evV, g10, g11, g1 8 (by omega), g1 1 (by omega), g1 vy hl2, h1, h8, hvy, in_nl, truth_bool, idx_mat f hy, idx_row (f y) hd]
      by_cases q : d ∈ ps
      · simp [q]
      · simp [q]
    have s11 : exS (callF fs fuel (k + 2)) fuel (.asg 4 (.fr (.lc (.ifx (.cmp .In (.var 10) (.var 8)) (.idx (.idx (.var 1) (.var 7)) (.var 10)) (.var 11)) (.two 10 11) (.enm (.idx (.var 1) (.var 6)))))) (E4 none none) = some (.nx (E4 (vz (.list (row n one))) none)) := by
      refine ex_asg (t := .fz (.list (row n one))) (env1 := E4 none none) ?_ rfl
      simp -implicitDefEqProofs only [evX]
      rw [evV_lc (ds := enumD 0 (row n (f a))) (rs := row n one) ?_ (by rw [en, List.length_map, List.length_range]; exact hbn) (by rw [en]; exact compD_rng fun d hd => elt a b 6 7 _ hb rfl rfl rfl rfl rfl (by decide) (by decide) d (List.mem_range.mp hd))]
      · rfl
      · show ((evV _ (.idx (.var 1) (.var 6)) (fEnv (E4 none none))).bind fun x => match x with | .list xs => some (enumD 0 xs) | _ => none) = _
        rw [show evV _ (.idx (.var 1) (.var 6)) (fEnv (E4 none none)) = idxV (.list (mat n n f)) (.int (a : Int)) from rfl, idx_mat f ha]
        rfl
    have s12 : exS (callF fs fuel (k + 2)) fuel (.asg 5 (.fr (.lc (.ifx (.cmp .In (.var 10) (.var 8)) (.idx (.idx (.var 1) (.var 6)) (.var 10)) (.var 11)) (.two 10 11) (.enm (.idx (.var 1) (.var 7)))))) (E4 (vz (.list (row n one))) none) = some (.nx (E4 (vz (.list (row n one))) (vz (.list (row n two))))) := by
      refine ex_asg (t := .fz (.list (row n two))) (env1 := E4 (vz (.list (row n one))) none) ?_ rfl
      simp -implicitDefEqProofs only [evX]
      rw [evV_lc (ds := enumD 0 (row n (f b))) (rs := row n two) ?_ (by rw [en, List.length_map, List.length_range]; exact hbn) (by rw [en]; exact compD_rng fun d hd => elt b a 7 6 _ ha rfl rfl rfl rfl rfl (by decide) (by decide) d (List.mem_range.mp hd))]
      · rfl
      · show ((evV _ (.idx (.var 1) (.var 7)) (fEnv (E4 (vz (.list (row n one))) none))).bind fun x => match x with | .list xs => some (enumD 0 xs) | _ => none) = _
        rw [show evV _ (.idx (.var 1) (.var 7)) (fEnv (E4 (vz (.list (row n one))) none)) = idxV (.list (mat n n f)) (.int (b : Int)) from rfl, idx_mat f hb]
        rfl
    have em : enumD 0 (mat n n f) = (List.range n).map fun (i : Nat) => PyData.tuple [.int (i : Int), .list (row n (f i))] := enum_range _ n
    have s13 : exS (callF fs fuel (k + 2)) fuel (.ret (.cmp (.fr (.ifx (.cmp .Eq (.var 10) (.var 6)) (.var 4) (.ifx (.cmp .Eq (.var 10) (.var 7)) (.var 5) (.var 12)))) (.two 10 12) (.fz (.enm (.var 1))))) (E4 (vz (.list (row n one))) (vz (.list (row n two)))) = some (.rt (.own ((List.range n).map fun p => T.fz (.list (row n (swz f a b ps p))))) (E4 (vz (.list (row n one))) (vz (.list (row n two))))) := by
      refine ex_retX (ev_cmp (ds := enumD 0 (mat n n f)) (env1 := E4 (vz (.list (row n one))) (vz (.list (row n two)))) (env2 := E4 (vz (.list (row n one))) (vz (.list (row n two)))) rfl (by rw [em, List.length_map, List.length_range]; exact hbn) rfl ?_)
      rw [em]
      refine cmpX_rng fun p hp => ⟨[some (.pin gc), vz (.list (mat n n f)), vn n, vn st, vz (.list (row n one)), vz (.list (row n two)), vn a, vn b, vz (.list (nl ps)), vn st, vn p, none, vz (.list (row n (f p)))], ?_, rfl⟩
      have q1 := eq_nat p a
      have q2 := eq_nat p b
      rw [show bindT (.two 10 12) (.tuple [.int (p : Int), .list (row n (f p))]) (E4 (vz (.list (row n one))) (vz (.list (row n two)))) = some [some (.pin gc), vz (.list (mat n n f)), vn n, vn st, vz (.list (row n one)), vz (.list (row n two)), vn a, vn b, vz (.list (nl ps)), vn st, vn p, none, vz (.list (row n (f p)))] from rfl]
      simp -implicitDefEqProofs only [Option.bind_some, evX, evV, fEnv, List.map_cons, List.map_nil, fSl, look, List.getElem?_cons_zero, List.getElem?_cons_succ, Option.join_some, q1, q2, truth_bool]
      have e1 : ∀ d, swz f a b ps p d = if p = a then one d else if p = b then two d else f p d := fun d => rfl
      by_cases c1 : p = a
      · have : row n (swz f a b ps p) = row n one := by
          unfold row
          refine List.map_congr_left fun d _ => ?_
          rw [e1, if_pos c1]
        rw [this]
        simp [c1]
      · by_cases c2 : p = b
        · have : row n (swz f a b ps p) = row n two := by
            unfold row
            refine List.map_congr_left fun d _ => ?_
            rw [e1, if_neg c1, if_pos c2]
          rw [this]
          simp [c1, c2]
          intro z
          exact absurd z.symm hab
        · have : row n (swz f a b ps p) = row n (f p) := by
            unfold row
            refine List.map_congr_left fun d _ => ?_
            rw [e1, if_neg c1, if_neg c2]
          rw [this]
          simp [c1, c2]
    refine ⟨swz f a b ps, .own ((List.range n).map fun p => T.fz (.list (row n (swz f a b ps p)))), gc, L.swz ha hb hab hs d1 d2 hc.lt, hgc, ?_, call_of H2 (run_rt (env0 := [some (.pin g), vz (.list (mat n n f)), none, none, none, none, none, none, none, none, none, none, none]) (env := E4 (vz (.list (row n one))) (vz (.list (row n two)))) rfl rfl (ex_seq s1 (ex_seq s2 (ex_seq (ex_frz rfl) (ex_seq (ex_frz rfl) (ex_seq (ex_iff (s5 false (by simp [hab])) rfl rfl) (ex_seq s6 (ex_seq (ex_frz rfl) (ex_seq s8 (ex_seq s9 (ex_seq s10 (ex_seq s11 (ex_seq s12 (ex_ret s13))))))))))))) rfl)⟩
    show PyData.list (T.datas _) = _
    rw [datas_map]
    rfl
end Lib
set_option maxRecDepth 100000
set_option maxHeartbeats 4000000
/-! LibK: drawn rotas. -/
namespace Lib
open PySem Eng
variable {fs : List FnD} {fuel k : Nat}
local macro_rules | `(tactic| walk_at "ev") => `(tactic| try simp -implicitDefEqProofs only [runF, Nat.zero_le, nd1, exSs, exS, evX, evXs, evAs, itX, evV, evVs, evBop, itV, look, sl, put, puts, fEnv, dEnv, fSl, dSl, Sl.t, Sl.put, T.data, T.datas, scal, truth_bool, truth_int, truth_none, truth_list, len_list, len_frn, int_int, list_list, max_int, cmp_lt, cmp_le, cmp_gt, cmp_ge, add_int, sub_int, isi_int, isi_list, isi_none, eq_int, ne_int, eq_bool, ne_bool, eq_nil, ne_nil, partE, partV, iosBack, slOf, bindT, bindD, clr, tgIx, arOf, iosOf, back, ownAt, List.map_cons, List.map_nil, List.length_cons, List.length_nil, List.getElem?_cons_zero, List.getElem?_cons_succ, List.getElem?_nil, List.cons_append, List.nil_append, List.append_nil, List.replicate, Option.join_some, Option.join_none, Option.bind_some, Option.bind_none, Option.map_some, Option.map_none, List.set_cons_zero, List.set_cons_succ, if_true, ite_true, ite_false, Nat.sub_self, List.any_cons, List.any_nil, isTy, Bool.or_false, Bool.false_or, Bool.or_true, Bool.true_or, Bool.not_true, Bool.not_false, beq_self_eq_true, Option.isSome_some, Nat.reduceAdd, Nat.reduceSub, Nat.reduceEqDiff, Bool.false_eq_true, reduceIte, Bool.and_self, Bool.true_and, Bool.and_true, Bool.false_and, Bool.and_false, Bool.true_eq_false, decide_true, decide_false, Bool.true_beq, Bool.false_beq])
theorem addmod_inj {n a x y : Nat} (ha : a < n) (hx : x < n) (hy : y < n) (e : (a + x) % n = (a + y) % n) : x = y := by
  have g : ∀ z, z < n → (a + z) % n = if a + z < n then a + z else a + z - n := fun z hz => by
    split
    · rename_i q
      exact Nat.mod_eq_of_lt q
    · rename_i q
      rw [Nat.mod_eq_sub_mod (by omega), Nat.mod_eq_of_lt (by omega)]
  rw [g x hx, g y hy] at e
  split at e <;> split at e <;> omega
theorem perm_fun {n : Nat} {ys : List Int} (h : ys.Perm ((List.range n).map fun (i : Nat) => (i : Int))) : ∃ u : Nat → Nat, il ys = row n u ∧ Inj n u ∧ ∀ i, i < n → u i < n := by
  have hl : ys.length = n := by simpa using h.length_eq
  have hn : ys.Nodup := h.nodup_iff.mpr (by
    rw [List.nodup_iff_pairwise_ne, List.pairwise_map]
    exact List.Pairwise.imp (fun {a b} hne e => hne (by exact_mod_cast e)) (List.nodup_iff_pairwise_ne.mp (List.nodup_range (n := n))))
  have hm : ∀ i (q : i < n), ∃ j : Nat, j < n ∧ ys[i]'(by omega) = (j : Int) := fun i q => by
    have := h.mem_iff.mp (List.getElem_mem (l := ys) (n := i) (by omega))
    obtain ⟨j, hj, e⟩ := List.mem_map.mp this
    exact ⟨j, List.mem_range.mp hj, e.symm⟩
  refine ⟨fun i => if q : i < n then (hm i q).choose else 0, ?_, fun i j hi hj e => ?_, fun i hi => ?_⟩
  · apply List.ext_getElem
    · simp [il, row, hl]
    · intro i h1 h2
      have hi : i < n := by simpa [row] using h2
      simp only [il, row, List.getElem_map, List.getElem_range, dif_pos hi]
      rw [← (hm i hi).choose_spec.2]
  · simp only [dif_pos hi, dif_pos hj] at e
    have a := (hm i hi).choose_spec.2
    have b := (hm j hj).choose_spec.2
    have : ys[i]'(by omega) = ys[j]'(by omega) := by rw [a, b, e]
    exact (List.getElem_inj hn).mp this
  · simp only [dif_pos hi]
    exact (hm i hi).choose_spec.1
theorem ev_val {c : CallT} {f : Str} {env env1 : TEnv} {x : TX} {tx t : T} (hx : evX c x env = some (tx, env1)) (hc : c f [.val tx.data] = some (t, [])) : evX c (.call f (.val x .nil)) env = some (t, env1) := by
  simp only [evX, evAs, hx, arOf, iosOf, List.nodup_nil, hc, back, Option.bind_some, Option.map_some, if_true]
theorem Lat.drawn {n : Nat} {u v w : Nat → Nat} (hu : Inj n u) (lu : ∀ i, i < n → u i < n) (hv : Inj n v) (lv : ∀ i, i < n → v i < n) (hw : Inj n w) (lw : ∀ i, i < n → w i < n) (h0 : 0 < n) : Lat n fun p d => w ((u p + v d) % n) where
  lt := fun p d hp hd => lw _ (Nat.mod_lt _ h0)
  rw_ := fun p hp d d' hd hd' e => hv d d' hd hd' (addmod_inj (lu p hp) (lv d hd) (lv d' hd') (hw _ _ (Nat.mod_lt _ h0) (Nat.mod_lt _ h0) e))
  cl := fun d hd p p' hp hp' e => hu p p' hp hp' (addmod_inj (lv d hd) (lu p hp) (lu p' hp') (by rw [Nat.add_comm (v d), Nat.add_comm (v d)]; exact hw _ _ (Nat.mod_lt _ h0) (Nat.mod_lt _ h0) e))
structure Draws (fs : List FnD) : Prop extends Rand fs where
  order : fnOf fs "_law_drawn_order" = some w_drawn_order
  switched : fnOf fs "_law_rows_switched" = some w_rows_switched
  turned : fnOf fs "_law_turned_rows" = some w_turned_rows
  drota : fnOf fs "_law_rota" = some w_rota
theorem lrng_il {n : Nat} (hn : n ≤ 16) (c : CallD) (env : DEnv) (h : look env 1 = some (.int (n : Int))) : evV c (.lrng (.var 1)) env = some (.list (il ((List.range n).map fun (i : Nat) => (i : Int)))) := by
  have hz : (0 : Int) ≤ (n : Int) ∧ (n : Int) ≤ 16777216 := by omega
  simp -implicitDefEqProofs only [evV, h, Option.bind_some]
  rw [if_pos hz, rng_nat (by omega)]
  simp [il]
theorem rota (H : Draws fs) {g : T} {m n : Nat} (hg : Gen m g) (n1 : 1 ≤ n) (n2 : n ≤ 16) (hm : m < 2 ^ 30) (hf : 17 < fuel) :
    ∃ (f : Nat → Nat → Nat) (t g' : T), Lat n f ∧ Gen (m + 100) g' ∧ t.data = .list (mat n n f) ∧ callF fs fuel (k + 4) "_law_rota" [.io g, .val (.int n)] = some (t, [g']) := by
  have lr : ((List.range n).map fun (i : Nat) => (i : Int)).length = n := by simp
  obtain ⟨y1, g1, p1, hg1, e1⟩ := drawn_order (fuel := fuel) (k := k) H.toRand H.order (ns := (List.range n).map fun (i : Nat) => (i : Int)) hg (by omega) (by omega) (by omega)
  rw [lr] at hg1
  obtain ⟨y2, g2, p2, hg2, e2⟩ := drawn_order (fuel := fuel) (k := k) H.toRand H.order (ns := (List.range n).map fun (i : Nat) => (i : Int)) hg1 (by omega) (by omega) (by omega)
  rw [lr] at hg2
  obtain ⟨y3, g3, p3, hg3, e3⟩ := drawn_order (fuel := fuel) (k := k) H.toRand H.order (ns := (List.range n).map fun (i : Nat) => (i : Int)) hg2 (by omega) (by omega) (by omega)
  rw [lr] at hg3
  obtain ⟨u1, a1, i1, l1⟩ := perm_fun p1
  obtain ⟨u2, a2, i2, l2⟩ := perm_fun p2
  obtain ⟨u3, a3, i3, l3⟩ := perm_fun p3
  obtain ⟨r, g4, hr, hg4, e4⟩ := drawn (fuel := fuel) (k := k + 1) H.toRand hg3 (by omega) (n := 8) (by omega) (by omega)
  let f0 : Nat → Nat → Nat := fun p d => u3 ((u1 p + u2 d) % n)
  have L0 : Lat n f0 := Lat.drawn i1 l1 i2 l2 i3 l3 (by omega)
  let c := callF fs fuel (k + 3)
  let E0 : T → TEnv := fun g => [some (.pin g), vn n, none, none, none, none, none, none, none]
  let E1 : T → Option Sl → TEnv := fun g x2 => [some (.pin g), vn n, x2, none, none, vz (.list (row n u1)), vz (.list (row n u2)), none, none]
  have s1 : exS c fuel (.par 5 6 (.call "_law_drawn_order" (.io 0 (.val (.fr (.lrng (.var 1))) .nil))) (.call "_law_drawn_order" (.io 0 (.val (.fr (.lrng (.var 1))) .nil)))) (E0 g) = some (.nx [some (.pin g2), vn n, none, none, none, some (.val (.own (iT y1))), some (.val (.own (iT y2))), none, none]) :=
    ex_par (env1 := E0 g1) (env2 := E0 g2) (ev_io (u := .pin g) (tx := .fz (.list (il ((List.range n).map fun (i : Nat) => (i : Int))))) rfl (by simp -implicitDefEqProofs only [evX]; rw [lrng_il n2 _ _ rfl]; rfl) e1)
      (ev_io (env := E0 g1) (u := .pin g1) (tx := .fz (.list (il ((List.range n).map fun (i : Nat) => (i : Int))))) rfl (by simp -implicitDefEqProofs only [evX]; rw [lrng_il n2 _ _ rfl]; rfl) e2) (by decide) rfl rfl
  have s2 : exS c fuel (.frz 5) [some (.pin g2), vn n, none, none, none, some (.val (.own (iT y1))), some (.val (.own (iT y2))), none, none] = some (.nx [some (.pin g2), vn n, none, none, none, vz (.list (row n u1)), some (.val (.own (iT y2))), none, none]) := by
    rw [ex_frz (t := .own (iT y1)) rfl]
    show some (Out.nx [some (.pin g2), vn n, none, none, none, some (.val (.fz (.list (T.datas (iT y1))))), some (.val (.own (iT y2))), none, none]) = _
    rw [iT_data, a1]
  have s3 : exS c fuel (.frz 6) [some (.pin g2), vn n, none, none, none, vz (.list (row n u1)), some (.val (.own (iT y2))), none, none] = some (.nx (E1 g2 none)) := by
    rw [ex_frz (t := .own (iT y2)) rfl]
    show some (Out.nx [some (.pin g2), vn n, none, none, none, vz (.list (row n u1)), some (.val (.fz (.list (T.datas (iT y2))))), none, none]) = _
    rw [iT_data, a2]
  have s4 : exS c fuel (.asg 2 (.call "_law_drawn_order" (.io 0 (.val (.fr (.lrng (.var 1))) .nil)))) (E1 g2 none) = some (.nx (E1 g3 (some (.val (.own (iT y3)))))) :=
    ex_asg (env1 := E1 g3 none) (ev_io (env := E1 g2 none) (u := .pin g2) (tx := .fz (.list (il ((List.range n).map fun (i : Nat) => (i : Int))))) rfl (by simp -implicitDefEqProofs only [evX]; rw [lrng_il n2 _ _ rfl]; rfl) e3) rfl
  have s5 : exS c fuel (.frz 2) (E1 g3 (some (.val (.own (iT y3))))) = some (.nx (E1 g3 (vz (.list (row n u3))))) := by
    rw [ex_frz (t := .own (iT y3)) rfl]
    show some (Out.nx [some (.pin g3), vn n, some (.val (.fz (.list (T.datas (iT y3))))), none, none, vz (.list (row n u1)), vz (.list (row n u2)), none, none]) = _
    rw [iT_data, a3]
  have hbn : n < big := by
    have : (17 : Nat) < big := by decide
    omega
  have n0 : (0 : Int) < (n : Int) := by omega
  have s6 : exS c fuel (.asg 3 (.fr (.lc (.lc (.idx (.var 2) (.bin .Mod (.blt .int (.cons (.bin .Add (.var 7) (.var 8)) .nil)) (.var 1))) (.one 8) (.seq (.var 6))) (.one 7) (.seq (.var 5))))) (E1 g3 (vz (.list (row n u3)))) = some (.nx [some (.pin g3), vn n, vz (.list (row n u3)), vz (.list (mat n n f0)), none, vz (.list (row n u1)), vz (.list (row n u2)), none, none]) := by
    refine ex_asg (t := .fz (.list (mat n n f0))) (env1 := E1 g3 (vz (.list (row n u3)))) ?_ rfl
    simp -implicitDefEqProofs only [evX]
    rw [evV_lc (ds := row n u1) (rs := mat n n f0) rfl (by rw [row_len]; exact hbn) (compD_rng fun p hp => ?_)]
    · rfl
    · have hp := List.mem_range.mp hp
      show (Option.map some (evV _ _ [_, some (.int (n : Int)), some (.list (row n u3)), none, none, some (.list (row n u1)), some (.list (row n u2)), some (.int (u1 p : Int)), none])) = _
      rw [evV_lc (ds := row n u2) (rs := row n (f0 p)) rfl (by rw [row_len]; exact hbn) (compD_rng fun d hd => ?_)]
      · rfl
      · have hd := List.mem_range.mp hd
        show (Option.map some (evV _ _ [_, some (.int (n : Int)), some (.list (row n u3)), none, none, some (.list (row n u1)), some (.list (row n u2)), some (.int (u1 p : Int)), some (.int (u2 d : Int))])) = _
        walk_at "ev"
        rw [mod_int n0]
        walk_at "ev"
        have : ((u1 p : Int) + (u2 d : Int)) % (n : Int) = (((u1 p + u2 d) % n : Nat) : Int) := by push_cast; rfl
        rw [this, idx_row _ (Nat.mod_lt _ (by omega))]
        rfl
  let E2 : T → (Nat → Nat → Nat) → Option PD → TEnv := fun g f x4 => [some (.pin g), vn n, vz (.list (row n u3)), vz (.list (mat n n f)), fzo x4, vz (.list (row n u1)), vz (.list (row n u2)), none, none]
  obtain ⟨env1, e7, f', g', x4, rfl, L', hg'⟩ := for_rng (n := r) (e := fun i => .int (i : Int)) (env := E2 g4 f0 none) (I := fun i env => ∃ f g x4, env = E2 g f x4 ∧ Lat n f ∧ Gen (m + 50 + 3 * i) g)
    (f := fun d env => (bindT (.one 4) d env).bind fun env' => exSs c fuel (.cons (.asg 3 (.call "_law_turned_rows" (.val (.call "_law_rows_switched" (.io 0 (.val (.fr (.var 3)) .nil))) .nil))) (.cons (.frz 3) .nil)) env')
    (fun i env hi ⟨f, g, x4, he, L, hg⟩ => by
      subst he
      obtain ⟨f1, t1, g1', L1, hg1', ht1, es⟩ := rows_switched (fuel := fuel) (k := k) H.toRand H.switched hg n1 n2 L (by omega) hf
      have et := turned_rows (fs := fs) (fuel := fuel) (k := k + 2) H.turned (f := f1) n2
      refine ⟨_, E2 g1' (fun d p => f1 p d) (some (.int (i : Int))), ?_, .inl rfl, _, _, _, rfl, L1.turn, by rw [show m + 50 + 3 * (i + 1) = m + 50 + 3 * i + 3 by omega]; exact hg1'⟩
      rw [bind1 (x := x4) rfl]
      let E3 : T → Option Sl → TEnv := fun g x3 => [some (.pin g), vn n, vz (.list (row n u3)), x3, vn i, vz (.list (row n u1)), vz (.list (row n u2)), none, none]
      refine ex_seq (env1 := E3 g1' (some (.val (.own (matT n n fun d p => f1 p d))))) (ex_asg (env1 := E3 g1' (vz (.list (mat n n f)))) (ev_val (tx := t1) (ev_io (env := E3 g (vz (.list (mat n n f)))) (u := .pin g) (tx := .fz (.list (mat n n f))) rfl rfl es) (by rw [ht1]; exact et)) rfl) (ex_last ?_)
      rw [ex_frz (t := .own (matT n n fun d p => f1 p d)) rfl]
      show some (Out.nx (E3 g1' (some (.val (.fz (.list (T.datas (matT n n fun d p => f1 p d)))))))) = _
      rw [matT_data]
      rfl) ⟨f0, g4, none, rfl, L0, hg4.mono (by omega)⟩
  have s7 : exS c fuel (.for_ (.one 4) (.rng (.call "_law_random" (.io 0 (.val (.fr (.int 8)) .nil)))) (.cons (.asg 3 (.call "_law_turned_rows" (.val (.call "_law_rows_switched" (.io 0 (.val (.fr (.var 3)) .nil))) .nil))) (.cons (.frz 3) .nil))) (E2 g3 f0 none) = some (.nx (E2 g' f' x4)) := by
    refine ex_for (ds := (List.range r).map fun (i : Nat) => .int (i : Int)) (env1 := E2 g4 f0 none) ?_ e7
    simp -implicitDefEqProofs only [itX]
    rw [ev_io (env := E2 g3 f0 none) (u := .pin g3) (tx := .fz (.int (8 : Nat))) rfl rfl e4]
    simp -implicitDefEqProofs only [Option.bind_some]
    rw [rng_nat (by omega)]
    rfl
  refine ⟨f', .fz (.list (mat n n f')), g', L', hg'.mono (by omega), rfl, call_of H.drota (run_rt (env0 := E0 g) (env := E2 g' f' x4) rfl rfl (ex_seq s1 (ex_seq s2 (ex_seq s3 (ex_seq s4 (ex_seq s5 (ex_seq s6 (ex_seq s7 (ex_ret (ex_retX rfl))))))))) rfl)⟩
end Lib
set_option maxRecDepth 100000
set_option maxHeartbeats 4000000
/-! K14P: rotas turned about: what is due, what is told. -/
namespace K14
open PySem Eng Lib
variable {fs : List FnD} {fuel k : Nat}
local macro_rules | `(tactic| walk_at "ev") => `(tactic| try simp -implicitDefEqProofs only [runF, Nat.zero_le, nd1, exSs, exS, evX, evXs, evAs, itX, evV, evVs, evBop, itV, look, sl, put, puts, fEnv, dEnv, fSl, dSl, Sl.t, Sl.put, T.data, T.datas, scal, truth_bool, truth_int, truth_none, truth_list, len_list, len_frn, int_int, list_list, max_int, cmp_lt, cmp_le, cmp_gt, cmp_ge, add_int, sub_int, isi_int, isi_list, isi_none, eq_int, ne_int, eq_bool, ne_bool, eq_nil, ne_nil, partE, partV, iosBack, slOf, bindT, bindD, clr, tgIx, arOf, iosOf, back, ownAt, List.map_cons, List.map_nil, List.length_cons, List.length_nil, List.getElem?_cons_zero, List.getElem?_cons_succ, List.getElem?_nil, List.cons_append, List.nil_append, List.append_nil, List.replicate, Option.join_some, Option.join_none, Option.bind_some, Option.bind_none, Option.map_some, Option.map_none, List.set_cons_zero, List.set_cons_succ, if_true, ite_true, ite_false, Nat.sub_self, List.any_cons, List.any_nil, isTy, Bool.or_false, Bool.false_or, Bool.or_true, Bool.true_or, Bool.not_true, Bool.not_false, beq_self_eq_true, Option.isSome_some, Nat.reduceAdd, Nat.reduceSub, Nat.reduceEqDiff, Bool.false_eq_true, reduceIte, Bool.and_self, Bool.true_and, Bool.and_true, Bool.false_and, Bool.and_false, Bool.true_eq_false, decide_true, decide_false, Bool.true_beq, Bool.false_beq])
def w_due : FnD := ⟨"_law_due", ["rota"], ["rota", "books", "size", "people", "person", "row", "day", "job"], (.cons (.par 2 3 (.fr (.blt .len (.cons (.var 0) .nil))) (.cmp (.cmp (.fr .non) (.one 6) (.fz (.seq (.var 0)))) (.one 7) (.fz (.seq (.var 0))))) (.cons (.asg 1 (.cmp (.cmp (.fr .non) (.one 7) (.fz (.seq (.var 0)))) (.one 4) (.fz (.seq (.var 0))))) (.cons (.for_ (.two 4 5) (.fz (.enm (.var 0))) (.cons (.for_ (.two 6 7) (.fz (.enm (.var 5))) (.cons (.set2 3 (.var 7) (.var 6) (.fr (.var 4))) (.cons (.set2 1 (.var 4) (.var 7) (.fr (.var 6))) .nil))) .nil)) (.cons (.ret (.lst (.cons (.cmp (.cmp (.fr (.idx (.var 5) (.var 6))) (.one 5) (.fz (.seq (.var 0)))) (.one 6) (.fz (.rng1 (.var 2)))) (.cons (.mv 3) (.cons (.mv 1) .nil))))) .nil))))⟩
def w_rota_right : FnD := ⟨"_law_rota_right", ["rota"], ["rota", "told", "thing", "again", "noted", "due"], (.cons (.par 4 5 (.fr (.call "_law_copied" (.cons (.var 0) .nil))) (.fr (.call "_law_due" (.cons (.var 0) .nil)))) (.cons (.frz 4) (.cons (.frz 5) (.cons (.asg 1 (.lst (.cons (.call "by_days" (.val (.fr (.var 0)) .nil)) (.cons (.call "by_jobs" (.val (.fr (.var 0)) .nil)) (.cons (.call "day_books" (.val (.fr (.var 0)) .nil)) .nil))))) (.cons (.iff (.not (.call "_law_exact" (.cons (.lst (.cons (.var 1) (.cons (.var 0) .nil))) (.cons (.lst (.cons (.var 5) (.cons (.var 4) .nil))) .nil)))) (.cons (.ret (.fr (.bl false))) .nil) .nil) (.cons (.forO 2 1 (.cons (.appi 2 (.int 0) (.int 1)) (.cons (.app 2 (.lst .nil)) .nil))) (.cons (.asg 3 (.fr (.lst (.cons (.callk "by_days" (.cons (.var 0) .nil) ["rota"] [0]) (.cons (.callk "by_jobs" (.cons (.var 0) .nil) ["rota"] [0]) (.cons (.callk "day_books" (.cons (.var 0) .nil) ["rota"] [0]) .nil)))))) (.cons (.frz 3) (.cons (.iff (.bop false (.cons (.not (.call "_law_exact" (.cons (.var 3) (.cons (.var 5) .nil)))) (.cons (.not (.call "_law_exact" (.cons (.call "by_days" (.cons (.call "by_days" (.cons (.var 0) .nil)) .nil)) (.cons (.var 0) .nil)))) (.cons (.not (.call "_law_exact" (.cons (.call "day_books" (.cons (.call "day_books" (.cons (.var 0) .nil)) .nil)) (.cons (.var 0) .nil)))) .nil)))) (.cons (.ret (.fr (.bl false))) .nil) .nil) (.cons (.ret (.fr (.call "_law_exact" (.cons (.call "by_jobs" (.cons (.call "by_jobs" (.cons (.var 0) .nil)) .nil)) (.cons (.var 0) .nil))))) .nil))))))))))⟩
def d_law : FnD := ⟨"law", ["script"], ["script", "generator", "turn", "size", "made", "due", "person", "day"], (.cons (.asg 1 (.call "_law_generator" (.val (.fr (.var 0)) (.val (.fr (.int 0)) .nil)))) (.cons (.for_ (.one 2) (.fz (.rng1 (.int 3))) (.cons (.iffx (.not (.call "_law_rota_right" (.val (.call "_law_rota" (.io 1 (.val (.bin .Add (.fr (.int 1)) (.call "_law_random" (.io 1 (.val (.fr (.idx (.lst (.cons (.int 4) (.cons (.int 8) (.cons (.int 16) .nil)))) (.var 2))) .nil)))) .nil))) .nil))) (.cons (.ret (.fr (.bl false))) .nil) .nil) .nil)) (.cons (.for_ (.one 3) (.fz (.rng2 (.int 1) (.int 17))) (.cons (.asg 5 (.fr (.lc (.lc (.bin .Mod (.blt .int (.cons (.bin .Add (.var 6) (.var 7)) .nil)) (.var 3)) (.one 7) (.rng1 (.var 3))) (.one 6) (.rng1 (.var 3))))) (.cons (.iff (.not (.call "_law_exact" (.cons (.lst (.cons (.call "plain_rota" (.cons (.var 3) .nil)) (.cons (.callk "plain_rota" (.cons (.var 3) .nil) ["size"] [0]) .nil))) (.cons (.lst (.cons (.var 5) (.cons (.var 5) .nil))) .nil)))) (.cons (.ret (.fr (.bl false))) .nil) .nil) .nil))) (.cons (.asg 4 (.fr (.lst (.cons (.lst (.cons (.int 0) (.cons (.int 1) (.cons (.int 2) .nil)))) (.cons (.lst (.cons (.int 2) (.cons (.int 0) (.cons (.int 1) .nil)))) (.cons (.lst (.cons (.int 1) (.cons (.int 2) (.cons (.int 0) .nil)))) .nil)))))) (.cons (.ret (.fr (.call "_law_exact" (.cons (.lst (.cons (.call "by_days" (.cons (.var 4) .nil)) (.cons (.call "by_jobs" (.cons (.var 4) .nil)) .nil))) (.cons (.lst (.cons (.lst (.cons (.lst (.cons (.int 0) (.cons (.int 2) (.cons (.int 1) .nil)))) (.cons (.lst (.cons (.int 1) (.cons (.int 0) (.cons (.int 2) .nil)))) (.cons (.lst (.cons (.int 2) (.cons (.int 1) (.cons (.int 0) .nil)))) .nil)))) (.cons (.lst (.cons (.lst (.cons (.int 0) (.cons (.int 1) (.cons (.int 2) .nil)))) (.cons (.lst (.cons (.int 2) (.cons (.int 0) (.cons (.int 1) .nil)))) (.cons (.lst (.cons (.int 1) (.cons (.int 2) (.cons (.int 0) .nil)))) .nil)))) .nil))) .nil))))) .nil)))))⟩
def rowP (n : Nat) (f : Nat → PD) : List T := (List.range n).map fun d => .fz (f d)
def matP (n m : Nat) (f : Nat → Nat → PD) : List T := (List.range n).map fun p => .own (rowP m (f p))
theorem matP_len (n m : Nat) (f : Nat → Nat → PD) : (matP n m f).length = n := by simp [matP]
theorem rowP_len (n : Nat) (f : Nat → PD) : (rowP n f).length = n := by simp [rowP]
theorem matP_get {n m a : Nat} {u : Nat → Nat → PD} (ha : a < n) : (matP n m u)[a]? = some (.own (rowP m (u a))) := by
  simp [matP, ha]
theorem rowP_set {m b : Nat} {v : PD} {u : Nat → PD} (hb : b < m) : (rowP m u).set b (.fz v) = rowP m fun d => if d = b then v else u d := by
  apply List.ext_getElem
  · simp [rowP]
  · intro i h1 h2
    simp only [rowP, List.getElem_set, List.getElem_map, List.getElem_range]
    by_cases q : b = i
    · rw [if_pos q, if_pos q.symm]
    · rw [if_neg q, if_neg fun z => q z.symm]
theorem matP_set {n m a b : Nat} {v : PD} {u : Nat → Nat → PD} (ha : a < n) (hb : b < m) : (matP n m u).set a (.own ((rowP m (u a)).set b (.fz v))) = matP n m fun j d => if j = a ∧ d = b then v else u j d := by
  rw [rowP_set hb]
  apply List.ext_getElem
  · simp [matP]
  · intro i h1 h2
    simp only [matP, List.getElem_set, List.getElem_map, List.getElem_range]
    by_cases q : a = i
    · rw [if_pos q]
      subst q
      simp
    · rw [if_neg q]
      have : ¬ i = a := fun z => q z.symm
      simp [this]
theorem matP_eq {n m : Nat} {u : Nat → Nat → PD} {g : Nat → Nat → Nat} (h : ∀ p d, p < n → d < m → u p d = .int (g p d)) : matP n m u = matT n m g := by
  unfold matP matT
  apply List.map_congr_left
  intro p hp
  congr 1
  unfold rowP rowT
  apply List.map_congr_left
  intro d hd
  rw [h p d (List.mem_range.mp hp) (List.mem_range.mp hd)]
theorem evXs_cons {c : CallT} {x : TX} {xs : TXs} {env env1 env2 : TEnv} {t : T} {ts : List T} (h1 : evX c x env = some (t, env1)) (h2 : evXs c xs env1 = some (ts, env2)) : evXs c (.cons x xs) env = some (t :: ts, env2) := by
  simp only [evXs, h1, h2, Option.bind_some, Option.map_some]
theorem ev_lst {c : CallT} {xs : TXs} {env env1 : TEnv} {ts : List T} (h : evXs c xs env = some (ts, env1)) (hl : ts.length ≤ big) : evX c (.lst xs) env = some (.own ts, env1) := by
  simp only [evX, h, Option.bind_some, if_pos hl]
theorem cmpX_inv {α : Type} {f : PD → TEnv → Option (T × TEnv)} {e : α → PD} {g : α → T} {is : List Nat} {I : TEnv → Prop} : ∀ {xs : List α} {env : TEnv}, (∀ x ∈ xs, ∀ env, I env → ∃ env1 env2, f (e x) env = some (g x, env1) ∧ clr is env1 = some env2 ∧ I env2) → I env → ∃ env', cmpX f is (xs.map e) env = some (xs.map g, env') ∧ I env'
  | [], env, _, h => ⟨env, rfl, h⟩
  | x :: xs, env, H, h => by
    obtain ⟨env1, env2, a, b, c⟩ := H x List.mem_cons_self env h
    obtain ⟨env', d, h'⟩ := cmpX_inv (xs := xs) (env := env2) (fun y hy => H y (List.mem_cons_of_mem _ hy)) c
    refine ⟨env', ?_, h'⟩
    simp only [List.map_cons, cmpX, a, b, Option.bind_some, d, Option.map_some]
theorem due (H : fnOf fs "_law_due" = some w_due) {n : Nat} {f g h : Nat → Nat → Nat} (n2 : n ≤ 16) (L : Lat n f) (Wg : Who n f g) (Wh : When n f h) :
    callF fs fuel (k + 1) "_law_due" [.val (.list (mat n n f))] = some (.own [.own (matT n n fun d p => f p d), .own (matT n n g), .own (matT n n h)], []) := by
  have hb : n < big := by
    have : (17 : Nat) < big := by decide
    omega
  have hr := rng_nat (n := n) (by omega)
  let c := callF fs fuel k
  let M : Option Sl := vz (.list (mat n n f))
  let E : (Nat → Nat → PD) → (Nat → Nat → PD) → Option PD → Option PD → Option PD → Option PD → TEnv := fun B U x4 x5 x6 x7 => [M, some (.val (.own (matP n n B))), vn n, some (.val (.own (matP n n U))), fzo x4, fzo x5, fzo x6, fzo x7]
  let bodyI : Ss := .cons (.set2 3 (.var 7) (.var 6) (.fr (.var 4))) (.cons (.set2 1 (.var 4) (.var 7) (.fr (.var 6))) .nil)
  let I : Nat → Nat → (Nat → Nat → PD) → (Nat → Nat → PD) → Prop := fun P D B U => (∀ j d, j < n → d < n → (g j d < P ∨ (g j d = P ∧ d < D)) → U j d = .int (g j d)) ∧ (∀ p j, p < n → j < n → (p < P ∨ (p = P ∧ h p j < D)) → B p j = .int (h p j))
  have step : ∀ (p d : Nat) (B U : Nat → Nat → PD) (x5 : Option PD), p < n → d < n → I p d B U → ∃ B' U', I p (d + 1) B' U' ∧ exSs c fuel bodyI (E B U (some (.int (p : Int))) x5 (some (.int (d : Int))) (some (.int (f p d : Int)))) = some (.nx (E B' U' (some (.int (p : Int))) x5 (some (.int (d : Int))) (some (.int (f p d : Int))))) := by
    intro p d B U x5 hp hd ⟨hU, hB⟩
    have hj := L.lt p d hp hd
    refine ⟨fun p' j => if p' = p ∧ j = f p d then .int (d : Int) else B p' j, fun j d' => if j = f p d ∧ d' = d then .int (p : Int) else U j d', ⟨fun j d' hj' hd' hc => ?_, fun p' j hp' hj' hc => ?_⟩, ?_⟩
    · obtain ⟨w1, w2⟩ := Wg j d' hj' hd'
      show (if j = f p d ∧ d' = d then PyData.int (p : Int) else U j d') = _
      by_cases q : j = f p d ∧ d' = d
      · rw [if_pos q]
        obtain ⟨q1, q2⟩ := q
        subst q2
        have := L.cl d' hd' p (g j d') hp w1 (by show f p d' = f (g j d') d'; rw [w2, q1])
        rw [← this]
      · rw [if_neg q]
        refine hU j d' hj' hd' ?_
        rcases hc with z | ⟨z, z2⟩
        · exact .inl z
        · refine .inr ⟨z, ?_⟩
          rcases Nat.lt_succ_iff_lt_or_eq.mp z2 with y | y
          · exact y
          · exfalso
            apply q
            rw [← w2, z, y]
            exact ⟨rfl, rfl⟩
    · obtain ⟨w1, w2⟩ := Wh p' j hp' hj'
      show (if p' = p ∧ j = f p d then PyData.int (d : Int) else B p' j) = _
      by_cases q : p' = p ∧ j = f p d
      · rw [if_pos q]
        obtain ⟨q1, q2⟩ := q
        subst q1
        have := L.rw_ p' hp d (h p' j) hd w1 (by rw [w2, q2])
        rw [← this]
      · rw [if_neg q]
        refine hB p' j hp' hj' ?_
        rcases hc with z | ⟨z, z2⟩
        · exact .inl z
        · refine .inr ⟨z, ?_⟩
          rcases Nat.lt_succ_iff_lt_or_eq.mp z2 with y | y
          · exact y
          · exfalso
            apply q
            exact ⟨z, by rw [← w2, y, z]⟩
    · refine ex_seq (env1 := E B (fun j d' => if j = f p d ∧ d' = d then .int (p : Int) else U j d') (some (.int (p : Int))) x5 (some (.int (d : Int))) (some (.int (f p d : Int)))) ?_ (ex_last ?_)
      · show exS c fuel _ [M, some (.val (.own (matP n n B))), vn n, some (.val (.own (matP n n U))), vn p, fzo x5, vn d, vn (f p d)] = _
        walk_at "ev"
        rw [matP_len, idx_nat hj]
        walk_at "ev"
        rw [matP_get hj]
        walk_at "ev"
        rw [rowP_len, idx_nat hd]
        walk_at "ev"
        rw [matP_set hj hd]
        rfl
      · show exS c fuel _ [M, some (.val (.own (matP n n B))), vn n, some (.val (.own (matP n n _))), vn p, fzo x5, vn d, vn (f p d)] = _
        walk_at "ev"
        rw [matP_len, idx_nat hp]
        walk_at "ev"
        rw [matP_get hp]
        walk_at "ev"
        rw [rowP_len, idx_nat hj]
        walk_at "ev"
        rw [matP_set hp hj]
        rfl
  have inner : ∀ (p : Nat) (B U : Nat → Nat → PD) (x6 x7 : Option PD), p < n → I p 0 B U → ∃ B' U' y6 y7, I (p + 1) 0 B' U' ∧ exSs c fuel (.cons (.for_ (.two 6 7) (.fz (.enm (.var 5))) bodyI) .nil) (E B U (some (.int (p : Int))) (some (.list (row n (f p)))) x6 x7) = some (.nx (E B' U' (some (.int (p : Int))) (some (.list (row n (f p)))) y6 y7)) := by
    intro p B U x6 x7 hp hI
    obtain ⟨env1, e, B', U', y6, y7, rfl, hI'⟩ := for_rng (n := n) (e := fun i => .tuple [.int (i : Int), .int (f p i : Int)]) (env := E B U (some (.int (p : Int))) (some (.list (row n (f p)))) x6 x7)
      (I := fun d env => ∃ B' U' y6 y7, env = E B' U' (some (.int (p : Int))) (some (.list (row n (f p)))) y6 y7 ∧ I p d B' U') (f := fun d env => (bindT (.two 6 7) d env).bind fun env' => exSs c fuel bodyI env') (fun d env hd ⟨B, U, y6, y7, he, hI⟩ => by
        subst he
        obtain ⟨B', U', hI', e⟩ := step p d B U (some (.list (row n (f p)))) hp hd hI
        refine ⟨_, _, ?_, .inl rfl, B', U', some (.int (d : Int)), some (.int (f p d : Int)), rfl, hI'⟩
        rw [bind2 (x := y6) (y := y7) rfl rfl]
        exact e) ⟨B, U, x6, x7, rfl, hI⟩
    refine ⟨B', U', y6, y7, ⟨fun j d hj hd hc => hI'.1 j d hj hd ?_, fun p' j hp' hj hc => hI'.2 p' j hp' hj ?_⟩, ?_⟩
    · omega
    · have := (Wh p' j hp' hj).1
      omega
    · have ee : enumD 0 (row n (f p)) = (List.range n).map fun (i : Nat) => PyData.tuple [.int (i : Int), .int (f p i)] := enum_range (fun i => .int (f p i)) n
      refine ex_last (ex_for (ds := enumD 0 (row n (f p))) rfl (by rw [ee]; exact e))
  obtain ⟨env1, eo, B, U, y4, y5, y6, y7, rfl, hI⟩ := for_rng (n := n) (e := fun i => .tuple [.int (i : Int), .list (row n (f i))]) (env := E (fun _ _ => .none) (fun _ _ => .none) none none none none)
    (I := fun P env => ∃ B U y4 y5 y6 y7, env = E B U y4 y5 y6 y7 ∧ I P 0 B U) (f := fun d env => (bindT (.two 4 5) d env).bind fun env' => exSs c fuel (.cons (.for_ (.two 6 7) (.fz (.enm (.var 5))) bodyI) .nil) env') (fun p env hp ⟨B, U, y4, y5, y6, y7, he, hI⟩ => by
      subst he
      obtain ⟨B', U', z6, z7, hI', e⟩ := inner p B U y6 y7 hp hI
      refine ⟨_, _, ?_, .inl rfl, B', U', some (.int (p : Int)), some (.list (row n (f p))), z6, z7, rfl, hI'⟩
      rw [bind2 (x := y4) (y := y5) rfl rfl]
      exact e) ⟨_, _, none, none, none, none, rfl, fun j d _ _ hc => by omega, fun p j _ _ hc => by omega⟩
  have eU : matP n n U = matT n n g := matP_eq fun j d hj hd => hI.1 j d hj hd (.inl (Wg j d hj hd).1)
  have eB : matP n n B = matT n n h := matP_eq fun p j hp hj => hI.2 p j hp hj (.inl hp)
  have em : enumD 0 (mat n n f) = (List.range n).map fun (i : Nat) => PyData.tuple [.int (i : Int), .list (row n (f i))] := enum_range _ n
  have mm : mat n n f = (List.range n).map fun p => PyData.list (row n (f p)) := rfl
  have none1 : evX c (.cmp (.cmp (.fr .non) (.one 6) (.fz (.seq (.var 0)))) (.one 7) (.fz (.seq (.var 0)))) [M, none, none, none, none, none, none, none] = some (.own (matP n n fun _ _ => .none), [M, none, none, none, none, none, none, none]) := by
    refine ev_cmp (ds := mat n n f) (env1 := [M, none, none, none, none, none, none, none]) rfl (by rw [mat_len]; exact hb) rfl ?_
    rw [mm]
    refine cmpX_rng fun p hp => ⟨[M, none, none, none, none, none, none, vz (.list (row n (f p)))], ?_, rfl⟩
    show evX c _ [M, none, none, none, none, none, none, vz (.list (row n (f p)))] = _
    refine ev_cmp (ds := mat n n f) (env1 := [M, none, none, none, none, none, none, vz (.list (row n (f p)))]) rfl (by rw [mat_len]; exact hb) rfl ?_
    rw [mm]
    exact cmpX_rng fun q hq => ⟨[M, none, none, none, none, none, vz (.list (row n (f q))), vz (.list (row n (f p)))], rfl, rfl⟩
  have none2 : ∀ x2 x3, evX c (.cmp (.cmp (.fr .non) (.one 7) (.fz (.seq (.var 0)))) (.one 4) (.fz (.seq (.var 0)))) [M, none, x2, x3, none, none, none, none] = some (.own (matP n n fun _ _ => .none), [M, none, x2, x3, none, none, none, none]) := fun x2 x3 => by
    refine ev_cmp (ds := mat n n f) (env1 := [M, none, x2, x3, none, none, none, none]) rfl (by rw [mat_len]; exact hb) rfl ?_
    rw [mm]
    refine cmpX_rng fun p hp => ⟨[M, none, x2, x3, vz (.list (row n (f p))), none, none, none], ?_, rfl⟩
    show evX c _ [M, none, x2, x3, vz (.list (row n (f p))), none, none, none] = _
    refine ev_cmp (ds := mat n n f) (env1 := [M, none, x2, x3, vz (.list (row n (f p))), none, none, none]) rfl (by rw [mat_len]; exact hb) rfl ?_
    rw [mm]
    exact cmpX_rng fun q hq => ⟨[M, none, x2, x3, vz (.list (row n (f p))), none, none, vz (.list (row n (f q)))], rfl, rfl⟩
  have s1 : exS c fuel (.par 2 3 (.fr (.blt .len (.cons (.var 0) .nil))) (.cmp (.cmp (.fr .non) (.one 6) (.fz (.seq (.var 0)))) (.one 7) (.fz (.seq (.var 0))))) [M, none, none, none, none, none, none, none] = some (.nx [M, none, vn n, some (.val (.own (matP n n fun _ _ => .none))), none, none, none, none]) :=
    ex_par (t1 := .fz (.int n)) (env1 := [M, none, none, none, none, none, none, none]) (by show evX c _ [vz (.list (mat n n f)), none, none, none, none, none, none, none] = _; walk_at "ev"; rw [mat_len]) none1 (by decide) rfl rfl
  have s2 : exS c fuel (.asg 1 (.cmp (.cmp (.fr .non) (.one 7) (.fz (.seq (.var 0)))) (.one 4) (.fz (.seq (.var 0))))) [M, none, vn n, some (.val (.own (matP n n fun _ _ => .none))), none, none, none, none] = some (.nx (E (fun _ _ => .none) (fun _ _ => .none) none none none none)) :=
    ex_asg (none2 _ _) rfl
  have s3 : exS c fuel (.for_ (.two 4 5) (.fz (.enm (.var 0))) (.cons (.for_ (.two 6 7) (.fz (.enm (.var 5))) bodyI) .nil)) (E (fun _ _ => .none) (fun _ _ => .none) none none none none) = some (.nx (E B U y4 y5 y6 y7)) :=
    ex_for (ds := enumD 0 (mat n n f)) rfl (by rw [em]; exact eo)
  have days : ∃ z5, evX c (.cmp (.cmp (.fr (.idx (.var 5) (.var 6))) (.one 5) (.fz (.seq (.var 0)))) (.one 6) (.fz (.rng1 (.var 2)))) (E B U y4 y5 y6 y7) = some (.own (matT n n fun d p => f p d), [M, some (.val (.own (matP n n B))), vn n, some (.val (.own (matP n n U))), fzo y4, fzo z5, none, fzo y7]) := by
    obtain ⟨env', e, z5, rfl⟩ := cmpX_inv (e := fun (d : Nat) => PyData.int (d : Int)) (f := fun d env => (bindT (.one 6) d env).bind fun env' => evX c (.cmp (.fr (.idx (.var 5) (.var 6))) (.one 5) (.fz (.seq (.var 0)))) env') (g := fun d => T.own (rowT n fun p => f p d)) (is := [6]) (xs := List.range n)
      (I := fun env => ∃ z5, env = [M, some (.val (.own (matP n n B))), vn n, some (.val (.own (matP n n U))), fzo y4, fzo z5, none, fzo y7]) (env := [M, some (.val (.own (matP n n B))), vn n, some (.val (.own (matP n n U))), fzo y4, fzo y5, none, fzo y7]) (fun d hd env ⟨z5, he⟩ => by
        subst he
        have hd := List.mem_range.mp hd
        refine ⟨[M, some (.val (.own (matP n n B))), vn n, some (.val (.own (matP n n U))), fzo y4, none, vn d, fzo y7], [M, some (.val (.own (matP n n B))), vn n, some (.val (.own (matP n n U))), fzo y4, none, none, fzo y7], ?_, rfl, none, rfl⟩
        show evX c _ [M, some (.val (.own (matP n n B))), vn n, some (.val (.own (matP n n U))), fzo y4, fzo z5, vn d, fzo y7] = _
        refine ev_cmp (ds := mat n n f) (env1 := [M, some (.val (.own (matP n n B))), vn n, some (.val (.own (matP n n U))), fzo y4, fzo z5, vn d, fzo y7]) (env2 := [M, some (.val (.own (matP n n B))), vn n, some (.val (.own (matP n n U))), fzo y4, none, vn d, fzo y7]) rfl (by rw [mat_len]; exact hb) (clr1 (x := z5) rfl) ?_
        rw [mm]
        refine cmpX_rng fun p hp => ⟨[M, some (.val (.own (matP n n B))), vn n, some (.val (.own (matP n n U))), fzo y4, vz (.list (row n (f p))), vn d, fzo y7], ?_, rfl⟩
        show (idxV (.list (row n (f p))) (.int (d : Int))).map _ = _
        rw [idx_row _ hd]
        rfl) ⟨y5, rfl⟩
    refine ⟨z5, ev_cmp (ds := (List.range n).map fun (d : Nat) => PyData.int (d : Int)) (env1 := E B U y4 y5 y6 y7) (env2 := [M, some (.val (.own (matP n n B))), vn n, some (.val (.own (matP n n U))), fzo y4, fzo y5, none, fzo y7]) ?_ (by rw [List.length_map, List.length_range]; exact hb) (clr1 (x := y6) rfl) e⟩
    show itX c _ [vz (.list (mat n n f)), some (.val (.own (matP n n B))), vn n, some (.val (.own (matP n n U))), fzo y4, fzo y5, fzo y6, fzo y7] = _
    simp -implicitDefEqProofs only [itX, itV, evV, fEnv, look, List.map_cons, List.map_nil, List.getElem?_cons_zero, List.getElem?_cons_succ, Option.join_some, fSl, Option.bind_some, hr, Option.map_some]
    rfl
  obtain ⟨z5, days⟩ := days
  have s4 : exS c fuel (.ret (.lst (.cons (.cmp (.cmp (.fr (.idx (.var 5) (.var 6))) (.one 5) (.fz (.seq (.var 0)))) (.one 6) (.fz (.rng1 (.var 2)))) (.cons (.mv 3) (.cons (.mv 1) .nil))))) (E B U y4 y5 y6 y7) = some (.rt (.own [.own (matT n n fun d p => f p d), .own (matT n n g), .own (matT n n h)]) [M, none, vn n, none, fzo y4, fzo z5, none, fzo y7]) := by
    refine ex_retX ?_
    rw [← eU, ← eB]
    have m3 : evX c (.mv 3) [M, some (.val (.own (matP n n B))), vn n, some (.val (.own (matP n n U))), fzo y4, fzo z5, none, fzo y7] = some (.own (matP n n U), [M, some (.val (.own (matP n n B))), vn n, none, fzo y4, fzo z5, none, fzo y7]) := rfl
    have m1 : evX c (.mv 1) [M, some (.val (.own (matP n n B))), vn n, none, fzo y4, fzo z5, none, fzo y7] = some (.own (matP n n B), [M, none, vn n, none, fzo y4, fzo z5, none, fzo y7]) := rfl
    exact ev_lst (evXs_cons days (evXs_cons m3 (evXs_cons m1 rfl))) (show 3 ≤ big from by decide)
  exact call_of H (run_rt rfl rfl (ex_seq s1 (ex_seq s2 (ex_seq s3 (ex_ret s4)))) rfl)
theorem Pl.up : ∀ {n : Nat} {d : PD}, Pl n d → Pl (n + 1) d
  | _, _, .none => .none
  | _, _, .int i => .int i
  | _, _, .list h l => .list (fun x hx => Pl.up (h x hx)) l
theorem pl_row (n : Nat) (f : Nat → Nat) (h : n ≤ 16) : Pl 1 (.list (row n f)) := .list (fun x hx => by
  obtain ⟨d, _, rfl⟩ := List.mem_map.mp hx
  exact .int _) (by rw [row_len]; omega)
theorem pl_mat (n : Nat) (f : Nat → Nat → Nat) (h : n ≤ 16) : Pl 2 (.list (mat n n f)) := .list (fun x hx => by
  obtain ⟨d, _, rfl⟩ := List.mem_map.mp hx
  exact pl_row n _ h) (by rw [mat_len]; omega)
theorem pl_lst {n : Nat} {xs : List PD} (h : ∀ x ∈ xs, Pl n x) (hl : xs.length < 100) : Pl (n + 1) (.list xs) := .list h (by omega)
structure Fns (fs : List FnD) : Prop extends Rotas fs, Draws fs where
  check : fnOf fs "check_rota" = some d_check_rota
  days : fnOf fs "by_days" = some d_by_days
  jobs : fnOf fs "by_jobs" = some d_by_jobs
  books : fnOf fs "day_books" = some d_day_books
  plain : fnOf fs "plain_rota" = some d_plain_rota
  exact_ : fnOf fs "_law_exact" = some w_exact
  copied : fnOf fs "_law_copied" = some w_copied
  due : fnOf fs "_law_due" = some w_due
  right : fnOf fs "_law_rota_right" = some w_rota_right
  cell : fnOf fs "_law_cell" = some w_cell
  gen : fnOf fs "_law_generator" = some w_generator
theorem matT_datas (n : Nat) (f : Nat → Nat → Nat) : (T.own (matT n n f)).data = .list (mat n n f) := by
  show PyData.list (T.datas _) = _
  rw [matT_data]
theorem put_val {env : TEnv} {i : Nat} {t : T} {u : Option Sl} (h : sl env i = u) (hu : u = none ∨ ∃ z, u = some (.val z)) : put env i t = some (env.set i (some (.val t))) := by
  unfold put
  rw [h]
  rcases hu with rfl | ⟨z, rfl⟩ <;> rfl
theorem evE_call1 {c : CallD} {f : Str} {a : E} {env : DEnv} {x r : PD} (h : evV c a env = some x) (hc : c f [x] = some r) : evV c (.call f (.cons a .nil)) env = some r := by
  simp only [evV, evVs, h, Option.bind_some, hc]
theorem evE_call2 {c : CallD} {f : Str} {a b : E} {env : DEnv} {x y r : PD} (h : evV c a env = some x) (h2 : evV c b env = some y) (hc : c f [x, y] = some r) : evV c (.call f (.cons a (.cons b .nil))) env = some r := by
  simp only [evV, evVs, h, h2, Option.bind_some, hc]
theorem evE_callk1 {c : CallD} {f k : Str} {a : E} {env : DEnv} {x r : PD} (h : evV c a env = some x) (hc : c f [x] = some r) : evV c (.callk f (.cons a .nil) [k] [0]) env = some r := by
  simp only [evV, evVs, h, Option.bind_some]
  exact hc
theorem evE_not {c : CallD} {a : E} {env : DEnv} {b : Bool} (h : evV c a env = some (.bool b)) : evV c (.not a) env = some (.bool (!b)) := by
  simp only [evV, h, Option.bind_some, truth_bool, Option.map_some]
theorem evE_lst2 {c : CallD} {a b : E} {env : DEnv} {x y : PD} (h : evV c a env = some x) (h2 : evV c b env = some y) : evV c (.lst (.cons a (.cons b .nil))) env = some (.list [x, y]) := by
  simp only [evV, evVs, h, h2, Option.bind_some]
  exact if_pos (show 2 ≤ big by decide)
theorem evE_lst3 {c : CallD} {a b d : E} {env : DEnv} {x y z : PD} (h : evV c a env = some x) (h2 : evV c b env = some y) (h3 : evV c d env = some z) : evV c (.lst (.cons a (.cons b (.cons d .nil)))) env = some (.list [x, y, z]) := by
  simp only [evV, evVs, h, h2, h3, Option.bind_some]
  exact if_pos (show 3 ≤ big by decide)
theorem rota_right (H : Fns fs) {n : Nat} {f : Nat → Nat → Nat} (n1 : 1 ≤ n) (n2 : n ≤ 16) (L : Lat n f) : callF fs fuel (k + 9) "_law_rota_right" [.val (.list (mat n n f))] = some (.fz (.bool true), []) := by
  obtain ⟨g, Wg⟩ := L.who
  obtain ⟨h, Wh⟩ := L.when
  let c := callF fs fuel (k + 8)
  have tl := by_days (fuel := fuel) (k := k) H.toRotas H.check H.days n1 n2 L
  have tj := by_jobs (fuel := fuel) (k := k) H.toRotas H.check H.jobs n1 n2 L Wg
  have tb := day_books (fuel := fuel) (k := k) H.toRotas H.check H.books n1 n2 L Wh
  have e_d : cD c "by_days" [.list (mat n n f)] = some (.list (mat n n fun d p => f p d)) := (cd_of (ds := [.list (mat n n f)]) tl).trans (by rw [matT_datas])
  have e_j : cD c "by_jobs" [.list (mat n n f)] = some (.list (mat n n g)) := (cd_of (ds := [.list (mat n n f)]) tj).trans (by rw [matT_datas])
  have e_b : cD c "day_books" [.list (mat n n f)] = some (.list (mat n n h)) := (cd_of (ds := [.list (mat n n f)]) tb).trans (by rw [matT_datas])
  have e_d2 : cD c "by_days" [.list (mat n n fun d p => f p d)] = some (.list (mat n n f)) := (cd_of (ds := [.list (mat n n fun d p => f p d)]) (by_days (fuel := fuel) (k := k) H.toRotas H.check H.days n1 n2 L.turn)).trans (by rw [matT_datas])
  have e_j2 : cD c "by_jobs" [.list (mat n n g)] = some (.list (mat n n f)) := (cd_of (ds := [.list (mat n n g)]) (by_jobs (fuel := fuel) (k := k) H.toRotas H.check H.jobs n1 n2 (L.jobs Wg) (Wg.back L))).trans (by rw [matT_datas])
  have e_b2 : cD c "day_books" [.list (mat n n h)] = some (.list (mat n n f)) := (cd_of (ds := [.list (mat n n h)]) (day_books (fuel := fuel) (k := k) H.toRotas H.check H.books n1 n2 (L.books Wh) (Wh.back L))).trans (by rw [matT_datas])
  let dd : PD := .list [.list (mat n n fun d p => f p d), .list (mat n n g), .list (mat n n h)]
  have e_due : cD c "_law_due" [.list (mat n n f)] = some dd := by
    have := cd_of (c := c) (ds := [.list (mat n n f)]) (due (fuel := fuel) (k := k + 7) H.due n2 L Wg Wh)
    rw [this]
    show some (PyData.list [(T.own (matT n n fun d p => f p d)).data, (T.own (matT n n g)).data, (T.own (matT n n h)).data]) = _
    rw [matT_datas, matT_datas, matT_datas]
  have e_cop : cD c "_law_copied" [.list (mat n n f)] = some (.list (mat n n f)) := by
    obtain ⟨t, a, b⟩ := copied (fuel := fuel) H.copied 2 _ (pl_mat n f n2) (k + 5)
    have b : c "_law_copied" ([PyData.list (mat n n f)].map Ar.val) = some (t, []) := b
    exact (cd_of b).trans (by rw [a])
  have pdd : Pl 3 dd := pl_lst (fun x hx => by
    simp only [List.mem_cons, List.not_mem_nil, or_false] at hx
    rcases hx with rfl | rfl | rfl <;> exact pl_mat n _ n2) (by simp)
  have x2 : ∀ d, Pl 2 d → cD c "_law_exact" [d, d] = some (.bool true) := fun d hd => cd_of (ds := [d, d]) (exact_refl (fuel := fuel) H.exact_ 2 d hd (k + 5))
  have x3 : ∀ d, Pl 3 d → cD c "_law_exact" [d, d] = some (.bool true) := fun d hd => cd_of (ds := [d, d]) (exact_refl (fuel := fuel) H.exact_ 3 d hd (k + 4))
  have x4 : ∀ d, Pl 4 d → cD c "_law_exact" [d, d] = some (.bool true) := fun d hd => cd_of (ds := [d, d]) (exact_refl (fuel := fuel) H.exact_ 4 d hd (k + 3))
  let M : Option Sl := vz (.list (mat n n f))
  let told : List T := [.own (matT n n fun d p => f p d), .own (matT n n g), .own (matT n n h)]
  have dt : T.datas told = [.list (mat n n fun d p => f p d), .list (mat n n g), .list (mat n n h)] := by
    show [(T.own (matT n n fun d p => f p d)).data, (T.own (matT n n g)).data, (T.own (matT n n h)).data] = _
    rw [matT_datas, matT_datas, matT_datas]
  let E0 : TEnv := [M, none, none, none, none, none]
  let E1 : TEnv := [M, none, none, none, M, vz dd]
  let E2 : TEnv := [M, some (.val (.own told)), none, none, M, vz dd]
  have v0 : ∀ x1 x2 x3 x4 x5, evV (cD c) (.var 0) (fEnv [M, x1, x2, x3, x4, x5]) = some (.list (mat n n f)) := fun _ _ _ _ _ => rfl
  have s1 : exS c fuel (.par 4 5 (.fr (.call "_law_copied" (.cons (.var 0) .nil))) (.fr (.call "_law_due" (.cons (.var 0) .nil)))) E0 = some (.nx E1) :=
    ex_par (t1 := .fz (.list (mat n n f))) (t2 := .fz dd) (env1 := E0) (env2 := E0) (by rw [evX, evE_call1 (v0 _ _ _ _ _) e_cop]; rfl) (by rw [evX, evE_call1 (v0 _ _ _ _ _) e_due]; rfl) (by decide) rfl rfl
  have s4 : exS c fuel (.asg 1 (.lst (.cons (.call "by_days" (.val (.fr (.var 0)) .nil)) (.cons (.call "by_jobs" (.val (.fr (.var 0)) .nil)) (.cons (.call "day_books" (.val (.fr (.var 0)) .nil)) .nil))))) E1 = some (.nx E2) :=
    ex_asg (env1 := E1) (ev_lst (ts := told) (evXs_cons (ev_val (tx := .fz (.list (mat n n f))) (env1 := E1) rfl tl) (evXs_cons (ev_val (tx := .fz (.list (mat n n f))) (env1 := E1) rfl tj) (evXs_cons (ev_val (tx := .fz (.list (mat n n f))) (env1 := E1) rfl tb) rfl))) (show 3 ≤ big from by decide)) rfl
  have d1 : evV (cD c) (.var 1) (dEnv E2) = some dd := by
    show some (PyData.list (T.datas told)) = _
    rw [dt]
  have s5 : exS c fuel (.iff (.not (.call "_law_exact" (.cons (.lst (.cons (.var 1) (.cons (.var 0) .nil))) (.cons (.lst (.cons (.var 5) (.cons (.var 4) .nil))) .nil)))) (.cons (.ret (.fr (.bl false))) .nil) .nil) E2 = some (.nx E2) :=
    ex_iff (evE_not (evE_call2 (evE_lst2 d1 (show _ = some (.list (mat n n f)) from rfl)) (evE_lst2 (show _ = some dd from rfl) (show _ = some (.list (mat n n f)) from rfl)) (x4 _ (pl_lst (fun x hx => by
      simp only [List.mem_cons, List.not_mem_nil, or_false] at hx
      rcases hx with rfl | rfl
      · exact pdd
      · exact Pl.up (pl_mat n f n2)) (by simp))))) rfl rfl
  let bodyO : Ss := .cons (.appi 2 (.int 0) (.int 1)) (.cons (.app 2 (.lst .nil)) .nil)
  have bg : (17 : Nat) < big := by decide
  have stepO : ∀ (x : Nat → Nat → Nat) (u : Option Sl), (u = none ∨ ∃ z, u = some (.val z)) → ∃ Z, ((put [M, none, u, none, M, vz dd] 2 (.own (matT n n x))).bind fun env' => exSs c fuel bodyO env') = some (.nx [M, none, some (.val Z), none, M, vz dd]) := by
    intro x u hu
    rw [put_val (u := u) rfl hu, Option.bind_some]
    refine ⟨.own ((matT n n x).set 0 (.own (rowT n (x 0) ++ [.fz (.int 1)])) ++ [.own []]), ex_seq (env1 := [M, none, some (.val (.own ((matT n n x).set 0 (.own (rowT n (x 0) ++ [.fz (.int 1)]))))), none, M, vz dd]) ?_ (ex_last ?_)⟩
    · show exS c fuel _ [M, none, some (.val (.own (matT n n x))), none, M, vz dd] = _
      walk_at "ev"
      rw [matT_len, show idxOf n (.int 0) = some 0 from idx_nat (d := 0) (by omega)]
      walk_at "ev"
      rw [matT_get (by omega)]
      walk_at "ev"
      rw [rowT_len, if_pos (by omega)]
    · walk_at "ev"
      rw [if_pos (by rw [List.length_set, matT_len]; omega)]
  have s6 : ∃ Z, exS c fuel (.forO 2 1 bodyO) E2 = some (.nx [M, none, some (.val Z), none, M, vz dd]) := by
    obtain ⟨Z1, e1⟩ := stepO (fun d p => f p d) none (.inl rfl)
    obtain ⟨Z2, e2⟩ := stepO g (some (.val Z1)) (.inr ⟨_, rfl⟩)
    obtain ⟨Z3, e3⟩ := stepO h (some (.val Z2)) (.inr ⟨_, rfl⟩)
    refine ⟨Z3, ?_⟩
    show forL (fun t env => (put env 2 t).bind fun env' => exSs c fuel bodyO env') told [M, none, none, none, M, vz dd] = _
    show forL (fun t env => (put env 2 t).bind fun env' => exSs c fuel bodyO env') [T.own (matT n n fun d p => f p d), .own (matT n n g), .own (matT n n h)] [M, none, none, none, M, vz dd] = _
    rw [forL, e1, Option.bind_some]
    show forL _ [T.own (matT n n g), .own (matT n n h)] [M, none, some (.val Z1), none, M, vz dd] = _
    rw [forL, e2, Option.bind_some]
    show forL _ [T.own (matT n n h)] [M, none, some (.val Z2), none, M, vz dd] = _
    rw [forL, e3, Option.bind_some]
    rfl
  obtain ⟨Z, s6⟩ := s6
  have s7 : exS c fuel (.asg 3 (.fr (.lst (.cons (.callk "by_days" (.cons (.var 0) .nil) ["rota"] [0]) (.cons (.callk "by_jobs" (.cons (.var 0) .nil) ["rota"] [0]) (.cons (.callk "day_books" (.cons (.var 0) .nil) ["rota"] [0]) .nil)))))) [M, none, some (.val Z), none, M, vz dd] = some (.nx [M, none, some (.val Z), vz dd, M, vz dd]) :=
    ex_asg (t := .fz dd) (env1 := [M, none, some (.val Z), none, M, vz dd]) (by rw [evX, evE_lst3 (evE_callk1 (v0 _ _ _ _ _) e_d) (evE_callk1 (v0 _ _ _ _ _) e_j) (evE_callk1 (v0 _ _ _ _ _) e_b)]; rfl) rfl
  have w0 : ∀ x1 x2 x3 x4 x5, evV (cD c) (.var 0) (dEnv [M, x1, x2, x3, x4, x5]) = some (.list (mat n n f)) := fun _ _ _ _ _ => rfl
  let E7 : TEnv := [M, none, some (.val Z), vz dd, M, vz dd]
  have c1 : evV (cD c) (.not (.call "_law_exact" (.cons (.var 3) (.cons (.var 5) .nil)))) (dEnv E7) = some (.bool false) := evE_not (evE_call2 (show _ = some dd from rfl) (show _ = some dd from rfl) (x3 _ pdd))
  have c2 : evV (cD c) (.not (.call "_law_exact" (.cons (.call "by_days" (.cons (.call "by_days" (.cons (.var 0) .nil)) .nil)) (.cons (.var 0) .nil)))) (dEnv E7) = some (.bool false) := evE_not (evE_call2 (evE_call1 (evE_call1 (w0 _ _ _ _ _) e_d) e_d2) (w0 _ _ _ _ _) (x2 _ (pl_mat n f n2)))
  have c3 : evV (cD c) (.not (.call "_law_exact" (.cons (.call "day_books" (.cons (.call "day_books" (.cons (.var 0) .nil)) .nil)) (.cons (.var 0) .nil)))) (dEnv E7) = some (.bool false) := evE_not (evE_call2 (evE_call1 (evE_call1 (w0 _ _ _ _ _) e_b) e_b2) (w0 _ _ _ _ _) (x2 _ (pl_mat n f n2)))
  have s9 : exS c fuel (.iff (.bop false (.cons (.not (.call "_law_exact" (.cons (.var 3) (.cons (.var 5) .nil)))) (.cons (.not (.call "_law_exact" (.cons (.call "by_days" (.cons (.call "by_days" (.cons (.var 0) .nil)) .nil)) (.cons (.var 0) .nil)))) (.cons (.not (.call "_law_exact" (.cons (.call "day_books" (.cons (.call "day_books" (.cons (.var 0) .nil)) .nil)) (.cons (.var 0) .nil)))) .nil)))) (.cons (.ret (.fr (.bl false))) .nil) .nil) E7 = some (.nx E7) := by
    refine ex_iff (d := .bool false) (q := false) ?_ rfl rfl
    have bop2 : ∀ (a b : E) (es : Es), evV (cD c) a (dEnv E7) = some (.bool false) → evBop (cD c) false (.cons a (.cons b es)) (dEnv E7) = evBop (cD c) false (.cons b es) (dEnv E7) := fun a b es h => by
      rw [evBop, h]
      · rfl
      · exact fun z => nomatch z
    rw [evV, bop2 _ _ _ c1, bop2 _ _ _ c2]
    exact c3
  have s10 : exS c fuel (.ret (.fr (.call "_law_exact" (.cons (.call "by_jobs" (.cons (.call "by_jobs" (.cons (.var 0) .nil)) .nil)) (.cons (.var 0) .nil))))) E7 = some (.rt (.fz (.bool true)) E7) :=
    ex_retX (by rw [evX, evE_call2 (evE_call1 (evE_call1 (v0 _ _ _ _ _) e_j) e_j2) (v0 _ _ _ _ _) (x2 _ (pl_mat n f n2))]; rfl)
  exact call_of H.right (run_rt (env0 := E0) (env := E7) rfl rfl (ex_seq s1 (ex_seq (ex_frz rfl) (ex_seq (ex_frz rfl) (ex_seq s4 (ex_seq s5 (ex_seq s6 (ex_seq s7 (ex_seq (ex_frz rfl) (ex_seq s9 (ex_ret s10)))))))))) rfl)
theorem ev_io2 {c : CallT} {f : Str} {env env1 : TEnv} {x : TX} {s : Nat} {u0 u : Sl} {tx t g' : T} (h0 : sl env s = some u0) (hx : evX c x env = some (tx, env1)) (h1 : sl env1 s = some u) (hc : c f [.io u.t, .val tx.data] = some (t, [g'])) :
    evX c (.call f (.io s (.val x .nil))) env = some (t, env1.set s (some (u.put g'))) := by
  simp only [evX, evAs, h0, hx, h1, arOf, iosOf, nd1, hc, back, Option.bind_some, Option.map_some, if_true]
theorem ev_val2 {c : CallT} {f : Str} {env env1 env2 : TEnv} {x y : TX} {tx ty t : T} (hx : evX c x env = some (tx, env1)) (hy : evX c y env1 = some (ty, env2)) (hc : c f [.val tx.data, .val ty.data] = some (t, [])) : evX c (.call f (.val x (.val y .nil))) env = some (t, env2) := by
  simp only [evX, evAs, hx, hy, arOf, iosOf, List.nodup_nil, hc, back, Option.bind_some, Option.map_some, if_true]
theorem ex_iffx {c : CallT} {t : TX} {a b : Ss} {env env1 : TEnv} {d : PD} {q : Bool} {o : Option Out} (h1 : evX c t env = some (.fz d, env1)) (h2 : truth d = some q) (h3 : (if q then exSs c fuel a env1 else exSs c fuel b env1) = o) : exS c fuel (.iffx t a b) env = o := by
  simp only [exS, h1, h2, Option.bind_some]
  exact h3
def bnd (i : Nat) : Nat := if i = 0 then 4 else if i = 1 then 8 else 16
def made (p d : Nat) : Nat := (d + 2 * p) % 3
def madeB (p d : Nat) : Nat := (3 + d - 2 * p % 3) % 3
theorem made_lat : Lat 3 made where
  lt := fun p d hp hd => by
    have : ∀ p < 3, ∀ d < 3, made p d < 3 := by decide
    exact this p hp d hd
  rw_ := fun p hp i j hi hj e => by
    have : ∀ p < 3, ∀ i < 3, ∀ j < 3, made p i = made p j → i = j := by decide
    exact this p hp i hi j hj e
  cl := fun d hd i j hi hj e => by
    have : ∀ d < 3, ∀ i < 3, ∀ j < 3, made i d = made j d → i = j := by decide
    exact this d hd i hi j hj e
def madeW (j d : Nat) : Nat := (j + d + d * 1 + 0) % 3
theorem made_who : ∃ g, Who 3 made g ∧ mat 3 3 g = [.list [.int 0, .int 1, .int 2], .list [.int 2, .int 0, .int 1], .list [.int 1, .int 2, .int 0]] := by
  refine ⟨fun j d => (2 * j + d) % 3, fun j d hj hd => ?_, rfl⟩
  have : ∀ j < 3, ∀ d < 3, (2 * j + d) % 3 < 3 ∧ made ((2 * j + d) % 3) d = j := by decide
  exact this j hj d hd
theorem it3 {c : CallD} {n : Nat} {ds : List PD} (env : DEnv) (h : look env 3 = some (.int (n : Int))) (hr : rngD 0 (n : Int) = some ds) : itV c (.rng1 (.var 3)) env = some ds := by
  simp -implicitDefEqProofs only [itV, evV, h, Option.bind_some]
  exact hr
theorem lc1 {α : Type} {c : CallD} {elt : E} {i : Nat} {it : It} {env : DEnv} {xs : List α} {e g : α → PD} (h1 : itV c it env = some (xs.map e)) (h2 : xs.length < big) (h3 : ∀ x ∈ xs, evV c elt (env.set i (some (e x))) = some (g x)) : evV c (.lc elt (.one i) it) env = some (.list (xs.map g)) := by
  refine evV_lc h1 (by rw [List.length_map]; exact h2) (compD_rng fun x hx => ?_)
  simp only [bindD, Option.bind_some, h3 x hx, Option.map_some]
abbrev body1 : Ss := .cons (.iffx (.not (.call "_law_rota_right" (.val (.call "_law_rota" (.io 1 (.val (.bin .Add (.fr (.int 1)) (.call "_law_random" (.io 1 (.val (.fr (.idx (.lst (.cons (.int 4) (.cons (.int 8) (.cons (.int 16) .nil)))) (.var 2))) .nil)))) .nil))) .nil))) (.cons (.ret (.fr (.bl false))) .nil) .nil) .nil
theorem turn1 (H : Fns fs) (hf : 17 < fuel) (S : Option Sl) {g : T} {i : Nat} (hi : i < 3) (hg : Gen (200 * i) g) : ∃ g2, Gen (200 * (i + 1)) g2 ∧ exSs (callF fs fuel (k + 9)) fuel body1 [S, some (.val g), vn i, none, none, none, none, none] = some (.nx [S, some (.val g2), vn i, none, none, none, none, none]) := by
  have hb : 0 < bnd i ∧ bnd i ≤ 16 := by
    unfold bnd
    repeat' split
    all_goals omega
  obtain ⟨r, g1, hr, hg1, er⟩ := drawn (fuel := fuel) (k := k + 7) H.toRand hg (by omega) (n := bnd i) hb.1 (by omega)
  obtain ⟨f, t, g2, L, hg2, ht, et⟩ := Lib.rota (fuel := fuel) (k := k + 5) H.toDraws (n := 1 + r) hg1 (by omega) (by omega) (by omega) hf
  have right := rota_right (fuel := fuel) (k := k) H (n := 1 + r) (by omega) (by omega) L
  refine ⟨g2, hg2.mono (by omega), ?_⟩
  generalize callF fs fuel (k + 9) = c at er et right ⊢
  have b1 : evX c (.fr (.idx (.lst (.cons (.int 4) (.cons (.int 8) (.cons (.int 16) .nil)))) (.var 2))) [S, some (.val g), vn i, none, none, none, none, none] = some (.fz (.int (bnd i : Int)), [S, some (.val g), vn i, none, none, none, none, none]) := by
    have : evV (cD c) (.idx (.lst (.cons (.int 4) (.cons (.int 8) (.cons (.int 16) .nil)))) (.var 2)) (fEnv [S, some (.val g), vn i, none, none, none, none, none]) = some (.int (bnd i : Int)) := by
      rw [evV, evE_lst3 (x := .int 4) (y := .int 8) (z := .int 16) rfl rfl rfl, Option.bind_some]
      have : i = 0 ∨ i = 1 ∨ i = 2 := by omega
      rcases this with rfl | rfl | rfl <;> rfl
    rw [evX, this]
    rfl
  have b2 := ev_io (c := c) (s := 1) (u := .val g) rfl b1 er
  have b3 : evX c (.bin .Add (.fr (.int 1)) (.call "_law_random" (.io 1 (.val (.fr (.idx (.lst (.cons (.int 4) (.cons (.int 8) (.cons (.int 16) .nil)))) (.var 2))) .nil)))) [S, some (.val g), vn i, none, none, none, none, none] = some (.fz (.int ((1 + r : Nat) : Int)), [S, some (.val g1), vn i, none, none, none, none, none]) := by
    rw [evX, show evX c (.fr (.int 1)) [S, some (.val g), vn i, none, none, none, none, none] = some (.fz (.int 1), [S, some (.val g), vn i, none, none, none, none, none]) from rfl, Option.bind_some]
    show (evX c (.call "_law_random" _) _).bind _ = _
    rw [b2, Option.bind_some, show ((1 + r : Nat) : Int) = 1 + (r : Int) by push_cast; rfl]
    rfl
  have b4 := ev_io2 (c := c) (s := 1) (u0 := .val g) (u := .val g1) rfl b3 rfl et
  have b5 := ev_val b4 (by rw [ht]; exact right)
  refine ex_last (ex_iffx (d := .bool false) (q := false) ?_ rfl rfl)
  rw [evX, b5]
  rfl
theorem loop1 (H : Fns fs) (hf : 17 < fuel) (S : Option Sl) {g0 : T} (hg0 : Gen 0 g0) : ∃ g x2, exS (callF fs fuel (k + 9)) fuel (.for_ (.one 2) (.fz (.rng1 (.int 3))) body1) [S, some (.val g0), none, none, none, none, none, none] = some (.nx [S, some (.val g), fzo x2, none, none, none, none, none]) := by
  obtain ⟨env1, eo, g, x2, rfl, hg⟩ := for_rng (n := 3) (e := fun i => .int (i : Int)) (env := [S, some (.val g0), none, none, none, none, none, none]) (I := fun i env => ∃ g x2, env = [S, some (.val g), fzo x2, none, none, none, none, none] ∧ Gen (200 * i) g)
    (f := fun d env => (bindT (.one 2) d env).bind fun env' => exSs (callF fs fuel (k + 9)) fuel body1 env') (fun i env hi ⟨g, x2, he, hg⟩ => by
      subst he
      obtain ⟨g2, hg2, e⟩ := turn1 (k := k) H hf S hi hg
      refine ⟨_, [S, some (.val g2), vn i, none, none, none, none, none], ?_, .inl rfl, g2, some (.int (i : Int)), rfl, hg2⟩
      rw [bind1 (x := x2) rfl, Option.bind_some]
      exact e) ⟨g0, none, rfl, hg0⟩
  exact ⟨g, x2, ex_for (ds := (List.range 3).map fun (i : Nat) => .int (i : Int)) rfl eo⟩
abbrev body2 : Ss := .cons (.asg 5 (.fr (.lc (.lc (.bin .Mod (.blt .int (.cons (.bin .Add (.var 6) (.var 7)) .nil)) (.var 3)) (.one 7) (.rng1 (.var 3))) (.one 6) (.rng1 (.var 3))))) (.cons (.iff (.not (.call "_law_exact" (.cons (.lst (.cons (.call "plain_rota" (.cons (.var 3) .nil)) (.cons (.callk "plain_rota" (.cons (.var 3) .nil) ["size"] [0]) .nil))) (.cons (.lst (.cons (.var 5) (.cons (.var 5) .nil))) .nil)))) (.cons (.ret (.fr (.bl false))) .nil) .nil) .nil)
theorem turn2 (H : Fns fs) (S G X2 : Option Sl) (x5 : Option PD) {n : Nat} (n1 : 1 ≤ n) (n2 : n ≤ 16) : exSs (callF fs fuel (k + 9)) fuel body2 [S, G, X2, vn n, none, fzo x5, none, none] = some (.nx [S, G, X2, vn n, none, vz (.list (mat n n fun p d => (p + d) % n)), none, none]) := by
  have n0 : (0 : Int) < (n : Int) := by omega
  have hb : n < big := by
    have : (17 : Nat) < big := by decide
    omega
  have hb : (List.range n).length < big := by rw [List.length_range]; exact hb
  have hr := rng_nat (n := n) (by omega)
  have pr : callF fs fuel (k + 9) "plain_rota" [.val (.int (n : Int))] = some (.own (matT n n fun p d => (p + d) % n), []) := Lib.plain_rota (fuel := fuel) (k := k + 6) H.whole H.size H.plain n1 n2
  have pr := (cd_of (c := callF fs fuel (k + 9)) (ds := [.int (n : Int)]) pr).trans (by rw [matT_datas])
  let P : PD := .list (mat n n fun p d => (p + d) % n)
  have pp : Pl 3 (.list [P, P]) := pl_lst (fun x hx => by
    simp only [List.mem_cons, List.not_mem_nil, or_false] at hx
    rcases hx with rfl | rfl <;> exact pl_mat n _ n2) (by simp)
  have xx : cD (callF fs fuel (k + 9)) "_law_exact" [.list [P, P], .list [P, P]] = some (.bool true) := cd_of (ds := [.list [P, P], .list [P, P]]) (exact_refl (fuel := fuel) H.exact_ 3 _ pp (k + 5))
  generalize callF fs fuel (k + 9) = c at pr xx ⊢
  have l3 : ∀ a b d e f h i : Option PD, look [a, b, d, some (.int (n : Int)), e, f, h, i] 3 = some (.int (n : Int)) := fun _ _ _ _ _ _ _ => rfl
  have out : evV (cD c) (.lc (.lc (.bin .Mod (.blt .int (.cons (.bin .Add (.var 6) (.var 7)) .nil)) (.var 3)) (.one 7) (.rng1 (.var 3))) (.one 6) (.rng1 (.var 3))) [fSl S, fSl G, fSl X2, some (.int (n : Int)), none, fSl (fzo x5), none, none] = some P :=
    lc1 (it3 _ (l3 _ _ _ _ _ _ _) hr) hb fun p hp => lc1 (it3 _ (l3 _ _ _ _ _ _ _) hr) hb fun d hd => by
      have l6 : look [fSl S, fSl G, fSl X2, some (.int (n : Int)), none, fSl (fzo x5), some (.int (p : Int)), some (.int (d : Int))] 6 = some (.int (p : Int)) := rfl
      have l7 : look [fSl S, fSl G, fSl X2, some (.int (n : Int)), none, fSl (fzo x5), some (.int (p : Int)), some (.int (d : Int))] 7 = some (.int (d : Int)) := rfl
      simp only [List.set_cons_zero, List.set_cons_succ, evV, evVs, l6, l7, l3, Option.bind_some, add_int, int_int, mod_int n0]
      push_cast
      rfl
  have t1 : evX c (.fr (.lc (.lc (.bin .Mod (.blt .int (.cons (.bin .Add (.var 6) (.var 7)) .nil)) (.var 3)) (.one 7) (.rng1 (.var 3))) (.one 6) (.rng1 (.var 3)))) [S, G, X2, vn n, none, fzo x5, none, none] = some (.fz P, [S, G, X2, vn n, none, fzo x5, none, none]) := by
    rw [evX, show fEnv [S, G, X2, vn n, none, fzo x5, none, none] = [fSl S, fSl G, fSl X2, some (.int (n : Int)), none, fSl (fzo x5), none, none] from rfl, out]
    rfl
  have a1 := ex_asg (fuel := fuel) t1 (put_fz (env := [S, G, X2, vn n, none, fzo x5, none, none]) (i := 5) (t := .fz P) (x := x5) rfl)
  have v3 : evV (cD c) (.var 3) (dEnv [S, G, X2, vn n, none, vz P, none, none]) = some (.int (n : Int)) := rfl
  have v5 : evV (cD c) (.var 5) (dEnv [S, G, X2, vn n, none, vz P, none, none]) = some P := rfl
  have q1 := evE_lst2 (evE_call1 v3 pr) (evE_callk1 (k := "size") v3 pr)
  have q3 := evE_not (evE_call2 q1 (evE_lst2 v5 v5) xx)
  exact ex_seq a1 (ex_last (ex_iff q3 rfl rfl))
theorem rng_16 : rngD 1 17 = some ((List.range 16).map fun (i : Nat) => .int (1 + (i : Int))) := by
  unfold rngD
  rw [if_pos (by decide)]
  rfl
theorem loop2 (H : Fns fs) (S G X2 : Option Sl) : ∃ x3 x5, exS (callF fs fuel (k + 9)) fuel (.for_ (.one 3) (.fz (.rng2 (.int 1) (.int 17))) body2) [S, G, X2, none, none, none, none, none] = some (.nx [S, G, X2, fzo x3, none, fzo x5, none, none]) := by
  obtain ⟨env2, eo2, x3, x5, rfl⟩ := for_rng (n := 16) (e := fun i => .int (1 + (i : Int))) (env := [S, G, X2, none, none, none, none, none]) (I := fun i env => ∃ x3 x5, env = [S, G, X2, fzo x3, none, fzo x5, none, none])
    (f := fun d env => (bindT (.one 3) d env).bind fun env' => exSs (callF fs fuel (k + 9)) fuel body2 env') (fun i env hi ⟨x3, x5, he⟩ => by
      subst he
      have e := turn2 (fuel := fuel) (k := k) H S G X2 x5 (n := 1 + i) (by omega) (by omega)
      refine ⟨_, [S, G, X2, vn (1 + i), none, vz (.list (mat (1 + i) (1 + i) fun p d => (p + d) % (1 + i))), none, none], ?_, .inl rfl, some (.int ((1 + i : Nat) : Int)), some (.list (mat (1 + i) (1 + i) fun p d => (p + d) % (1 + i))), rfl⟩
      rw [bind1 (x := x3) rfl, Option.bind_some, show (1 : Int) + (i : Int) = ((1 + i : Nat) : Int) by push_cast; rfl]
      exact e) ⟨none, none, rfl⟩
  refine ⟨x3, x5, ex_for (ds := (List.range 16).map fun (i : Nat) => .int (1 + (i : Int))) (env1 := [S, G, X2, none, none, none, none, none]) ?_ eo2⟩
  simp -implicitDefEqProofs only [itX, itV, evV, Option.bind_some, rng_16, Option.map_some]
theorem last (H : Fns fs) (S G X2 X3 X5 : Option Sl) : exSs (callF fs fuel (k + 9)) fuel (.cons (.asg 4 (.fr (.lst (.cons (.lst (.cons (.int 0) (.cons (.int 1) (.cons (.int 2) .nil)))) (.cons (.lst (.cons (.int 2) (.cons (.int 0) (.cons (.int 1) .nil)))) (.cons (.lst (.cons (.int 1) (.cons (.int 2) (.cons (.int 0) .nil)))) .nil)))))) (.cons (.ret (.fr (.call "_law_exact" (.cons (.lst (.cons (.call "by_days" (.cons (.var 4) .nil)) (.cons (.call "by_jobs" (.cons (.var 4) .nil)) .nil))) (.cons (.lst (.cons (.lst (.cons (.lst (.cons (.int 0) (.cons (.int 2) (.cons (.int 1) .nil)))) (.cons (.lst (.cons (.int 1) (.cons (.int 0) (.cons (.int 2) .nil)))) (.cons (.lst (.cons (.int 2) (.cons (.int 1) (.cons (.int 0) .nil)))) .nil)))) (.cons (.lst (.cons (.lst (.cons (.int 0) (.cons (.int 1) (.cons (.int 2) .nil)))) (.cons (.lst (.cons (.int 2) (.cons (.int 0) (.cons (.int 1) .nil)))) (.cons (.lst (.cons (.int 1) (.cons (.int 2) (.cons (.int 0) .nil)))) .nil)))) .nil))) .nil))))) .nil)) [S, G, X2, X3, none, X5, none, none] = some (.rt (.fz (.bool true)) [S, G, X2, X3, vz (.list (mat 3 3 made)), X5, none, none]) := by
  let M : PD := .list (mat 3 3 made)
  obtain ⟨gm, Wm, em⟩ := made_who
  have pd := (cd_of (c := callF fs fuel (k + 9)) (ds := [M]) (by_days (fuel := fuel) (k := k + 1) H.toRotas H.check H.days (n := 3) (by omega) (by omega) made_lat)).trans (by rw [matT_datas])
  have pj := (cd_of (c := callF fs fuel (k + 9)) (ds := [M]) (by_jobs (fuel := fuel) (k := k + 1) H.toRotas H.check H.jobs (n := 3) (by omega) (by omega) made_lat Wm)).trans (by rw [matT_datas, em])
  have pp : Pl 3 (.list [.list (mat 3 3 fun d p => made p d), .list [.list [.int 0, .int 1, .int 2], .list [.int 2, .int 0, .int 1], .list [.int 1, .int 2, .int 0]]]) := pl_lst (fun x hx => by
    simp only [List.mem_cons, List.not_mem_nil, or_false] at hx
    rcases hx with rfl | rfl
    · exact pl_mat 3 _ (by omega)
    · rw [← em]
      exact pl_mat 3 _ (by omega)) (by simp)
  have xx := cd_of (c := callF fs fuel (k + 9)) (ds := [_, _]) (exact_refl (fuel := fuel) H.exact_ 3 _ pp (k + 5))
  generalize callF fs fuel (k + 9) = c at pd pj xx ⊢
  have s4 : exS c fuel (.asg 4 (.fr (.lst (.cons (.lst (.cons (.int 0) (.cons (.int 1) (.cons (.int 2) .nil)))) (.cons (.lst (.cons (.int 2) (.cons (.int 0) (.cons (.int 1) .nil)))) (.cons (.lst (.cons (.int 1) (.cons (.int 2) (.cons (.int 0) .nil)))) .nil)))))) [S, G, X2, X3, none, X5, none, none] = some (.nx [S, G, X2, X3, vz M, X5, none, none]) := by
    refine ex_asg (t := .fz M) (env1 := [S, G, X2, X3, none, X5, none, none]) ?_ rfl
    rw [evX, evE_lst3 (evE_lst3 (x := .int 0) (y := .int 1) (z := .int 2) rfl rfl rfl) (evE_lst3 (x := .int 2) (y := .int 0) (z := .int 1) rfl rfl rfl) (evE_lst3 (x := .int 1) (y := .int 2) (z := .int 0) rfl rfl rfl)]
    rfl
  have f4 : evV (cD c) (.var 4) (fEnv [S, G, X2, X3, vz M, X5, none, none]) = some M := rfl
  have q1 := evE_lst2 (evE_call1 f4 pd) (evE_call1 f4 pj)
  have q2 : evV (cD c) (.lst (.cons (.lst (.cons (.lst (.cons (.int 0) (.cons (.int 2) (.cons (.int 1) .nil)))) (.cons (.lst (.cons (.int 1) (.cons (.int 0) (.cons (.int 2) .nil)))) (.cons (.lst (.cons (.int 2) (.cons (.int 1) (.cons (.int 0) .nil)))) .nil)))) (.cons (.lst (.cons (.lst (.cons (.int 0) (.cons (.int 1) (.cons (.int 2) .nil)))) (.cons (.lst (.cons (.int 2) (.cons (.int 0) (.cons (.int 1) .nil)))) (.cons (.lst (.cons (.int 1) (.cons (.int 2) (.cons (.int 0) .nil)))) .nil)))) .nil))) (fEnv [S, G, X2, X3, vz M, X5, none, none]) = some (.list [.list (mat 3 3 fun d p => made p d), .list [.list [.int 0, .int 1, .int 2], .list [.int 2, .int 0, .int 1], .list [.int 1, .int 2, .int 0]]]) := by
    rw [evE_lst2 (evE_lst3 (evE_lst3 (x := .int 0) (y := .int 2) (z := .int 1) rfl rfl rfl) (evE_lst3 (x := .int 1) (y := .int 0) (z := .int 2) rfl rfl rfl) (evE_lst3 (x := .int 2) (y := .int 1) (z := .int 0) rfl rfl rfl)) (evE_lst3 (evE_lst3 (x := .int 0) (y := .int 1) (z := .int 2) rfl rfl rfl) (evE_lst3 (x := .int 2) (y := .int 0) (z := .int 1) rfl rfl rfl) (evE_lst3 (x := .int 1) (y := .int 2) (z := .int 0) rfl rfl rfl))]
    rfl
  have q3 := evE_call2 q1 q2 xx
  refine ex_seq s4 (ex_ret (ex_retX ?_))
  rw [evX, q3]
  rfl
theorem law_true (H : Fns fs) (hf : 17 < fuel) (ns : List Int) : runF (callF fs fuel (k + 9)) fuel d_law [.val (frnD (ns.map .int))] = some (.fz (.bool true), []) := by
  obtain ⟨g0, hg0, e0⟩ := generator (fuel := fuel) (k := k + 7) H.cell H.gen ns 0 (by decide)
  obtain ⟨g, x2, s2⟩ := loop1 (k := k) H hf (vz (frnD (ns.map .int))) (g0 := g0) (by simpa using hg0)
  obtain ⟨x3, x5, s3⟩ := loop2 (fuel := fuel) (k := k) H (vz (frnD (ns.map .int))) (some (.val g)) (fzo x2)
  have s4 := last (fuel := fuel) (k := k) H (vz (frnD (ns.map .int))) (some (.val g)) (fzo x2) (fzo x3) (fzo x5)
  have e0 : callF fs fuel (k + 9) "_law_generator" [.val (frnD (ns.map .int)), .val (.int ((0 : Nat) : Int))] = some (g0, []) := e0
  generalize callF fs fuel (k + 9) = c at e0 s2 s3 s4 ⊢
  have s1 : exS c fuel (.asg 1 (.call "_law_generator" (.val (.fr (.var 0)) (.val (.fr (.int 0)) .nil)))) [vz (frnD (ns.map .int)), none, none, none, none, none, none, none] = some (.nx [vz (frnD (ns.map .int)), some (.val g0), none, none, none, none, none, none]) :=
    ex_asg (env1 := [vz (frnD (ns.map .int)), none, none, none, none, none, none, none]) (ev_val2 (tx := .fz (frnD (ns.map .int))) (ty := .fz (.int ((0 : Nat) : Int))) (env1 := [vz (frnD (ns.map .int)), none, none, none, none, none, none, none]) rfl rfl e0) rfl
  exact run_rt (env0 := [vz (frnD (ns.map .int)), none, none, none, none, none, none, none]) rfl rfl (ex_seq s1 (ex_seq s2 (ex_seq s3 s4))) rfl
end K14
set_option maxRecDepth 100000
set_option maxHeartbeats 0
namespace LawK
open PySem PySem.Spec PyProof.Rows L2 Eng
def top (i : Nat) : Stmt := PySem.Challenge.pw_surerota_k14_rotas_turned_about.main.body.getD i (.Pass ⟨0, 0, 0, 0⟩)
def mk (x : Str) (i : Nat) : He.DefD := ⟨(x, none), x, x, defArgs (top i), defBody (top i), defScope (top i), [], []⟩
def d_is_whole : FnD := ⟨"is_whole", ["value"], ["value"], (.cons (.ret (.fr (.bop true (.cons (.isi (.var 0) [.int]) (.cons (.not (.isi (.var 0) [.bool])) .nil))))) .nil)⟩
def d_is_count : FnD := ⟨"is_count", ["value"], ["value"], (.cons (.ret (.fr (.bop true (.cons (.call "is_whole" (.cons (.var 0) .nil)) (.cons (.cmp .GtE (.var 0) (.int 0)) .nil))))) .nil)⟩
def d_is_below : FnD := ⟨"is_below", ["value", "bound"], ["value", "bound"], (.cons (.ret (.fr (.bop true (.cons (.call "is_count" (.cons (.var 0) .nil)) (.cons (.cmp .Lt (.var 0) (.var 1)) .nil))))) .nil)⟩
def d_is_size : FnD := ⟨"is_size", ["value"], ["value"], (.cons (.ret (.fr (.bop true (.cons (.call "is_whole" (.cons (.var 0) .nil)) (.cons (.chn .LtE .LtE (.int 1) (.var 0) (.con "LARGEST" 16)) .nil))))) .nil)⟩
def d_are_unlike : FnD := ⟨"are_unlike", ["values"], ["values"], (.cons (.ret (.fr (.cmp .Eq (.lenset (.var 0)) (.blt .len (.cons (.var 0) .nil))))) .nil)⟩
def d_is_row_of_jobs : FnD := ⟨"is_row_of_jobs", ["size", "value"], ["size", "value", "job"], (.cons (.iff (.bop false (.cons (.not (.isi (.var 1) [.list])) (.cons (.cmp .NotEq (.lcc (.var 2) (.one 2) (.seq (.var 1)) (.not (.call "is_below" (.cons (.var 2) (.cons (.var 0) .nil))))) (.lst .nil)) .nil))) (.cons (.ret (.fr (.bl false))) .nil) .nil) (.cons (.ret (.fr (.call "are_unlike" (.cons (.var 1) .nil)))) .nil))⟩
def d_are_rows_of : FnD := ⟨"are_rows_of", ["size", "days", "value"], ["size", "days", "value", "row", "day"], (.cons (.iff (.bop false (.cons (.not (.isi (.var 2) [.list])) (.cons (.cmp .Gt (.blt .len (.cons (.var 2) .nil)) (.var 0)) .nil))) (.cons (.ret (.fr (.bl false))) .nil) .nil) (.cons (.iff (.cmp .NotEq (.lcc (.var 3) (.one 3) (.seq (.var 2)) (.bop false (.cons (.not (.call "is_row_of_jobs" (.cons (.var 0) (.cons (.var 3) .nil)))) (.cons (.cmp .NotEq (.blt .len (.cons (.var 3) .nil)) (.var 1)) .nil)))) (.lst .nil)) (.cons (.ret (.fr (.bl false))) .nil) .nil) (.cons (.ret (.fr (.cmp .Eq (.lcc (.var 4) (.one 4) (.rng1 (.var 1)) (.not (.call "are_unlike" (.cons (.lc (.idx (.var 3) (.var 4)) (.one 3) (.seq (.var 2))) .nil)))) (.lst .nil)))) .nil)))⟩
def d_is_rota : FnD := ⟨"is_rota", ["value"], ["value"], (.cons (.iff (.bop false (.cons (.not (.isi (.var 0) [.list])) (.cons (.not (.call "is_size" (.cons (.blt .len (.cons (.var 0) .nil)) .nil))) .nil))) (.cons (.ret (.fr (.bl false))) .nil) .nil) (.cons (.ret (.fr (.call "are_rows_of" (.cons (.blt .len (.cons (.var 0) .nil)) (.cons (.blt .len (.cons (.var 0) .nil)) (.cons (.var 0) .nil)))))) .nil))⟩
def d_check_rota : FnD := ⟨"check_rota", ["rota"], ["rota"], (.cons (.iff (.not (.call "is_rota" (.cons (.var 0) .nil))) (.cons .nev .nil) .nil) .nil)⟩
def d_plain_rota : FnD := ⟨"plain_rota", ["size"], ["size", "person", "day"], (.cons (.iff (.not (.call "is_size" (.cons (.var 0) .nil))) (.cons .nev .nil) .nil) (.cons (.ret (.cmp (.cmp (.fr (.bin .Mod (.bin .Add (.var 1) (.var 2)) (.var 0))) (.one 2) (.fz (.rng1 (.var 0)))) (.one 1) (.fz (.rng1 (.var 0))))) .nil))⟩
def d_by_days : FnD := ⟨"by_days", ["rota"], ["rota", "day", "row"], (.cons (.ex (.fr (.call "check_rota" (.cons (.var 0) .nil)))) (.cons (.ret (.cmp (.cmp (.fr (.idx (.var 2) (.var 1))) (.one 2) (.fz (.seq (.var 0)))) (.one 1) (.fz (.rng1 (.blt .len (.cons (.var 0) .nil)))))) .nil))⟩
def d_by_jobs : FnD := ⟨"by_jobs", ["rota"], ["rota", "size", "people", "person", "row", "job", "day"], (.cons (.ex (.fr (.call "check_rota" (.cons (.var 0) .nil)))) (.cons (.asg 1 (.fr (.blt .len (.cons (.var 0) .nil)))) (.cons (.asg 2 (.cmp (.rep (.int 0) (.var 1)) (.one 5) (.fz (.rng1 (.var 1))))) (.cons (.for_ (.two 3 4) (.fz (.enm (.var 0))) (.cons (.for_ (.two 6 5) (.fz (.enm (.var 4))) (.cons (.set2 2 (.var 5) (.var 6) (.fr (.var 3))) .nil)) .nil)) (.cons (.ret (.mv 2)) .nil)))))⟩
def d_day_books : FnD := ⟨"day_books", ["rota"], ["rota", "row", "job"], (.cons (.ex (.fr (.call "check_rota" (.cons (.var 0) .nil)))) (.cons (.ret (.cmp (.cmp (.fr (.index (.var 1) (.var 2))) (.one 2) (.fz (.rng1 (.blt .len (.cons (.var 0) .nil))))) (.one 1) (.fz (.seq (.var 0))))) .nil))⟩
def w_hash : FnD := ⟨"_law_hash", ["seed", "index"], ["seed", "index", "mixed"], (.cons (.asg 2 (.fr (.bin .Mod (.blt .int (.cons (.bin .Add (.bin .Add (.bin .Add (.bin .Mult (.var 0) (.int 1140671)) (.bin .Mult (.bin .Mult (.int 27644437) (.var 1)) (.var 1))) (.bin .Mult (.int 131) (.var 1))) (.int 19)) .nil)) (.int 2147483629)))) (.cons (.asg 2 (.fr (.bin .Mod (.blt .int (.cons (.bin .Add (.bin .Add (.bin .Mult (.var 2) (.var 2)) (.bin .Mult (.int 62089) (.var 1))) (.int 32416187)) .nil)) (.int 2147483587)))) (.cons (.ret (.fr (.bin .Mod (.blt .int (.cons (.bin .Mult (.var 2) (.int 48271)) .nil)) (.int 2147483647)))) .nil)))⟩
def w_random : FnD := ⟨"_law_random", ["generator", "bound"], ["generator", "bound", "drawn", "turn"], (.cons (.iff (.cmp .Gt (.idx (.var 0) (.int 0)) (.int 0)) (.cons (.asg 2 (.sc (.bin .Mod (.blt .int (.cons (.idx (.var 0) (.int 0)) .nil)) (.var 1)))) (.cons (.set1 0 (.int 0) (.sc (.bin .FloorDiv (.idx (.var 0) (.int 0)) (.var 1)))) (.cons (.ret (.fr (.var 2))) .nil))) .nil) (.cons (.asg 2 (.fr (.int 0))) (.cons (.for_ (.one 3) (.fz (.rng1 (.bin .Add (.int 1) (.bin .FloorDiv (.bits (.var 1)) (.int 30))))) (.cons (.set1 0 (.int 2) (.sc (.bin .Add (.idx (.var 0) (.int 2)) (.int 1)))) (.cons (.asg 2 (.sc (.bin .Add (.bin .Mult (.var 2) (.int 2147483587)) (.call "_law_hash" (.cons (.idx (.var 0) (.int 1)) (.cons (.idx (.var 0) (.int 2)) .nil)))))) (.cons (.frz 2) .nil)))) (.cons (.ret (.fr (.bin .Mod (.blt .int (.cons (.var 2) .nil)) (.var 1)))) .nil))))⟩
def w_cell : FnD := ⟨"_law_cell", ["script", "index"], ["script", "index"], (.cons (.iff (.cmp .Lt (.var 1) (.blt .len (.cons (.var 0) .nil))) (.cons (.ret (.fr (.idx (.var 0) (.var 1)))) .nil) .nil) (.cons (.ret (.fr (.bin .Mod (.blt .sum (.cons (.slc (.var 0) .omt (.int 1)) .nil)) (.int 1000003)))) .nil))⟩
def w_generator : FnD := ⟨"_law_generator", ["script", "index"], ["script", "index", "seed"], (.cons (.asg 2 (.fr (.call "_law_cell" (.cons (.var 0) (.cons (.var 1) .nil))))) (.cons (.frz 2) (.cons (.ret (.lst (.cons (.fr (.bin .Mod (.blt .int (.cons (.blt .max (.cons (.bin .Sub (.var 2) (.bin .Pow (.int 10) (.int 18))) (.cons (.int 0) .nil))) .nil)) (.bin .Pow (.bin .Pow (.int 10) (.int 60)) (.int 10)))) (.cons (.fr (.bin .Mod (.blt .int (.cons (.var 2) .nil)) (.int 2147483647))) (.cons (.fr (.bin .Mult (.int 1000) (.var 1))) .nil))))) .nil)))⟩
def w_drawn_order : FnD := ⟨"_law_drawn_order", ["generator", "things"], ["generator", "things", "left", "found"], (.cons (.par 2 3 (.listof (.blt .list (.cons (.var 1) .nil))) (.lst .nil)) (.cons (.whl (.cmp .NotEq (.var 2) (.lst .nil)) (.cons (.app 3 (.pop 2 (.call "_law_random" (.io 0 (.val (.sc (.blt .len (.cons (.var 2) .nil))) .nil))))) .nil)) (.cons (.ret (.mv 3)) .nil)))⟩
def w_exact : FnD := ⟨"_law_exact", ["told", "due"], ["told", "due", "at", "part"], (.cons (.iff (.isi (.var 1) [.list, .tuple]) (.cons (.iff (.bop false (.cons (.cmp .NotEq (.isi (.var 0) [.list]) (.isi (.var 1) [.list])) (.cons (.cmp .NotEq (.isi (.var 0) [.tuple]) (.isi (.var 1) [.tuple])) .nil))) (.cons (.ret (.fr (.bl false))) .nil) .nil) (.cons (.ret (.fr (.bop true (.cons (.cmp .Eq (.blt .len (.cons (.var 0) .nil)) (.blt .len (.cons (.var 1) .nil))) (.cons (.blt .all (.cons (.lc (.call "_law_exact" (.cons (.idx (.var 0) (.var 2)) (.cons (.var 3) .nil))) (.two 2 3) (.enm (.var 1))) .nil)) .nil))))) .nil)) .nil) (.cons (.iff (.isi (.var 1) [.str]) (.cons (.ret (.fr (.bop true (.cons (.isi (.var 0) [.str]) (.cons (.cmp .Eq (.var 0) (.var 1)) .nil))))) .nil) .nil) (.cons (.iff (.isi (.var 1) [.bool]) (.cons (.ret (.fr (.bop true (.cons (.isi (.var 0) [.bool]) (.cons (.cmp .Eq (.var 0) (.var 1)) .nil))))) .nil) .nil) (.cons (.iff (.isi (.var 1) [.int]) (.cons (.ret (.fr (.bop true (.cons (.isi (.var 0) [.int]) (.cons (.not (.isi (.var 0) [.bool])) (.cons (.cmp .Eq (.var 0) (.var 1)) .nil)))))) .nil) .nil) (.cons (.ret (.fr (.bop true (.cons (.cmp .Is (.var 0) .non) (.cons (.cmp .Is (.var 1) .non) .nil))))) .nil)))))⟩
def w_copied : FnD := ⟨"_law_copied", ["thing"], ["thing", "part"], (.cons (.iff (.isi (.var 0) [.list]) (.cons (.ret (.cmp (.call "_law_copied" (.val (.fr (.var 1)) .nil)) (.one 1) (.fz (.seq (.var 0))))) .nil) .nil) (.cons (.ret (.fr (.ifx (.isi (.var 0) [.tuple]) (.blt .tuple (.cons (.lc (.call "_law_copied" (.cons (.var 1) .nil)) (.one 1) (.seq (.var 0))) .nil)) (.var 0)))) .nil))⟩
def w_rows_switched : FnD := ⟨"_law_rows_switched", ["generator", "rows"], ["generator", "rows", "size", "start", "one", "two", "first", "second", "places", "place", "at", "job", "row"], (.cons (.asg 2 (.fr (.blt .len (.cons (.var 1) .nil)))) (.cons (.par 6 7 (.call "_law_random" (.io 0 (.val (.fr (.var 2)) .nil))) (.call "_law_random" (.io 0 (.val (.fr (.var 2)) .nil)))) (.cons (.frz 6) (.cons (.frz 7) (.cons (.iff (.cmp .Eq (.var 6) (.var 7)) (.cons (.ret (.fr (.var 1))) .nil) .nil) (.cons (.asg 3 (.call "_law_random" (.io 0 (.val (.fr (.var 2)) .nil)))) (.cons (.frz 3) (.cons (.par 8 9 (.lst (.cons (.fr (.var 3)) .nil)) (.fr (.index (.idx (.var 1) (.var 6)) (.idx (.idx (.var 1) (.var 7)) (.var 3))))) (.cons (.whl (.cmp .NotEq (.var 9) (.var 3)) (.cons (.app 8 (.fr (.var 9))) (.cons (.asg 9 (.fr (.index (.idx (.var 1) (.var 6)) (.idx (.idx (.var 1) (.var 7)) (.var 9))))) .nil))) (.cons (.frz 8) (.cons (.asg 4 (.fr (.lc (.ifx (.cmp .In (.var 10) (.var 8)) (.idx (.idx (.var 1) (.var 7)) (.var 10)) (.var 11)) (.two 10 11) (.enm (.idx (.var 1) (.var 6)))))) (.cons (.asg 5 (.fr (.lc (.ifx (.cmp .In (.var 10) (.var 8)) (.idx (.idx (.var 1) (.var 6)) (.var 10)) (.var 11)) (.two 10 11) (.enm (.idx (.var 1) (.var 7)))))) (.cons (.ret (.cmp (.fr (.ifx (.cmp .Eq (.var 10) (.var 6)) (.var 4) (.ifx (.cmp .Eq (.var 10) (.var 7)) (.var 5) (.var 12)))) (.two 10 12) (.fz (.enm (.var 1))))) .nil)))))))))))))⟩
def w_turned_rows : FnD := ⟨"_law_turned_rows", ["rows"], ["rows", "at", "row"], (.cons (.ret (.cmp (.cmp (.fr (.idx (.var 2) (.var 1))) (.one 2) (.fz (.seq (.var 0)))) (.one 1) (.fz (.rng1 (.blt .len (.cons (.var 0) .nil)))))) .nil)⟩
def w_rota : FnD := ⟨"_law_rota", ["generator", "size"], ["generator", "size", "jobs", "rows", "turn", "people", "days", "person", "day"], (.cons (.par 5 6 (.call "_law_drawn_order" (.io 0 (.val (.fr (.lrng (.var 1))) .nil))) (.call "_law_drawn_order" (.io 0 (.val (.fr (.lrng (.var 1))) .nil)))) (.cons (.frz 5) (.cons (.frz 6) (.cons (.asg 2 (.call "_law_drawn_order" (.io 0 (.val (.fr (.lrng (.var 1))) .nil)))) (.cons (.frz 2) (.cons (.asg 3 (.fr (.lc (.lc (.idx (.var 2) (.bin .Mod (.blt .int (.cons (.bin .Add (.var 7) (.var 8)) .nil)) (.var 1))) (.one 8) (.seq (.var 6))) (.one 7) (.seq (.var 5))))) (.cons (.for_ (.one 4) (.rng (.call "_law_random" (.io 0 (.val (.fr (.int 8)) .nil)))) (.cons (.asg 3 (.call "_law_turned_rows" (.val (.call "_law_rows_switched" (.io 0 (.val (.fr (.var 3)) .nil))) .nil))) (.cons (.frz 3) .nil))) (.cons (.ret (.fr (.var 3))) .nil))))))))⟩
def w_due : FnD := ⟨"_law_due", ["rota"], ["rota", "books", "size", "people", "person", "row", "day", "job"], (.cons (.par 2 3 (.fr (.blt .len (.cons (.var 0) .nil))) (.cmp (.cmp (.fr .non) (.one 6) (.fz (.seq (.var 0)))) (.one 7) (.fz (.seq (.var 0))))) (.cons (.asg 1 (.cmp (.cmp (.fr .non) (.one 7) (.fz (.seq (.var 0)))) (.one 4) (.fz (.seq (.var 0))))) (.cons (.for_ (.two 4 5) (.fz (.enm (.var 0))) (.cons (.for_ (.two 6 7) (.fz (.enm (.var 5))) (.cons (.set2 3 (.var 7) (.var 6) (.fr (.var 4))) (.cons (.set2 1 (.var 4) (.var 7) (.fr (.var 6))) .nil))) .nil)) (.cons (.ret (.lst (.cons (.cmp (.cmp (.fr (.idx (.var 5) (.var 6))) (.one 5) (.fz (.seq (.var 0)))) (.one 6) (.fz (.rng1 (.var 2)))) (.cons (.mv 3) (.cons (.mv 1) .nil))))) .nil))))⟩
def w_rota_right : FnD := ⟨"_law_rota_right", ["rota"], ["rota", "told", "thing", "again", "noted", "due"], (.cons (.par 4 5 (.fr (.call "_law_copied" (.cons (.var 0) .nil))) (.fr (.call "_law_due" (.cons (.var 0) .nil)))) (.cons (.frz 4) (.cons (.frz 5) (.cons (.asg 1 (.lst (.cons (.call "by_days" (.val (.fr (.var 0)) .nil)) (.cons (.call "by_jobs" (.val (.fr (.var 0)) .nil)) (.cons (.call "day_books" (.val (.fr (.var 0)) .nil)) .nil))))) (.cons (.iff (.not (.call "_law_exact" (.cons (.lst (.cons (.var 1) (.cons (.var 0) .nil))) (.cons (.lst (.cons (.var 5) (.cons (.var 4) .nil))) .nil)))) (.cons (.ret (.fr (.bl false))) .nil) .nil) (.cons (.forO 2 1 (.cons (.appi 2 (.int 0) (.int 1)) (.cons (.app 2 (.lst .nil)) .nil))) (.cons (.asg 3 (.fr (.lst (.cons (.callk "by_days" (.cons (.var 0) .nil) ["rota"] [0]) (.cons (.callk "by_jobs" (.cons (.var 0) .nil) ["rota"] [0]) (.cons (.callk "day_books" (.cons (.var 0) .nil) ["rota"] [0]) .nil)))))) (.cons (.frz 3) (.cons (.iff (.bop false (.cons (.not (.call "_law_exact" (.cons (.var 3) (.cons (.var 5) .nil)))) (.cons (.not (.call "_law_exact" (.cons (.call "by_days" (.cons (.call "by_days" (.cons (.var 0) .nil)) .nil)) (.cons (.var 0) .nil)))) (.cons (.not (.call "_law_exact" (.cons (.call "day_books" (.cons (.call "day_books" (.cons (.var 0) .nil)) .nil)) (.cons (.var 0) .nil)))) .nil)))) (.cons (.ret (.fr (.bl false))) .nil) .nil) (.cons (.ret (.fr (.call "_law_exact" (.cons (.call "by_jobs" (.cons (.call "by_jobs" (.cons (.var 0) .nil)) .nil)) (.cons (.var 0) .nil))))) .nil))))))))))⟩
def d_law : FnD := ⟨"law", ["script"], ["script", "generator", "turn", "size", "made", "due", "person", "day"], (.cons (.asg 1 (.call "_law_generator" (.val (.fr (.var 0)) (.val (.fr (.int 0)) .nil)))) (.cons (.for_ (.one 2) (.fz (.rng1 (.int 3))) (.cons (.iffx (.not (.call "_law_rota_right" (.val (.call "_law_rota" (.io 1 (.val (.bin .Add (.fr (.int 1)) (.call "_law_random" (.io 1 (.val (.fr (.idx (.lst (.cons (.int 4) (.cons (.int 8) (.cons (.int 16) .nil)))) (.var 2))) .nil)))) .nil))) .nil))) (.cons (.ret (.fr (.bl false))) .nil) .nil) .nil)) (.cons (.for_ (.one 3) (.fz (.rng2 (.int 1) (.int 17))) (.cons (.asg 5 (.fr (.lc (.lc (.bin .Mod (.blt .int (.cons (.bin .Add (.var 6) (.var 7)) .nil)) (.var 3)) (.one 7) (.rng1 (.var 3))) (.one 6) (.rng1 (.var 3))))) (.cons (.iff (.not (.call "_law_exact" (.cons (.lst (.cons (.call "plain_rota" (.cons (.var 3) .nil)) (.cons (.callk "plain_rota" (.cons (.var 3) .nil) ["size"] [0]) .nil))) (.cons (.lst (.cons (.var 5) (.cons (.var 5) .nil))) .nil)))) (.cons (.ret (.fr (.bl false))) .nil) .nil) .nil))) (.cons (.asg 4 (.fr (.lst (.cons (.lst (.cons (.int 0) (.cons (.int 1) (.cons (.int 2) .nil)))) (.cons (.lst (.cons (.int 2) (.cons (.int 0) (.cons (.int 1) .nil)))) (.cons (.lst (.cons (.int 1) (.cons (.int 2) (.cons (.int 0) .nil)))) .nil)))))) (.cons (.ret (.fr (.call "_law_exact" (.cons (.lst (.cons (.call "by_days" (.cons (.var 4) .nil)) (.cons (.call "by_jobs" (.cons (.var 4) .nil)) .nil))) (.cons (.lst (.cons (.lst (.cons (.lst (.cons (.int 0) (.cons (.int 2) (.cons (.int 1) .nil)))) (.cons (.lst (.cons (.int 1) (.cons (.int 0) (.cons (.int 2) .nil)))) (.cons (.lst (.cons (.int 2) (.cons (.int 1) (.cons (.int 0) .nil)))) .nil)))) (.cons (.lst (.cons (.lst (.cons (.int 0) (.cons (.int 1) (.cons (.int 2) .nil)))) (.cons (.lst (.cons (.int 2) (.cons (.int 0) (.cons (.int 1) .nil)))) (.cons (.lst (.cons (.int 1) (.cons (.int 2) (.cons (.int 0) .nil)))) .nil)))) .nil))) .nil))))) .nil)))))⟩
def prog : List FnD := [d_is_whole, d_is_count, d_is_below, d_is_size, d_are_unlike, d_is_row_of_jobs, d_are_rows_of, d_is_rota, d_check_rota, d_plain_rota, d_by_days, d_by_jobs, d_day_books, w_hash, w_random, w_cell, w_generator, w_drawn_order, w_exact, w_copied, w_rows_switched, w_turned_rows, w_rota, w_due, w_rota_right, d_law]
def fn : List He.DefD := [mk "is_whole" 6, mk "is_count" 7, mk "is_below" 8, mk "is_size" 9, mk "are_unlike" 10, mk "is_row_of_jobs" 11, mk "are_rows_of" 12, mk "is_rota" 13, mk "check_rota" 14, mk "plain_rota" 16, mk "by_days" 17, mk "by_jobs" 18, mk "day_books" 19, mk "_law_hash" 21, mk "_law_random" 22, mk "_law_cell" 23, mk "_law_generator" 24, mk "_law_drawn_order" 25, mk "_law_exact" 26, mk "_law_copied" 27, mk "_law_rows_switched" 28, mk "_law_turned_rows" 29, mk "_law_rota" 30, mk "_law_due" 31, mk "_law_rota_right" 32, mk "law" 33]
def free : List Str := ["all", "bool", "enumerate", "int", "isinstance", "len", "list", "max", "range", "set", "str", "sum", "tuple"]
def cons : List (Str × Int) := [("LARGEST", 16)]
def kws : List (Str × List Str × List Nat) := [("by_days", ["rota"], [0]), ("by_jobs", ["rota"], [0]), ("day_books", ["rota"], [0]), ("plain_rota", ["size"], [0])]
def fa : List He.Fa := [.glo "is_whole", .glo "is_count", .glo "is_below", .glo "is_size", .glo "are_unlike", .glo "is_row_of_jobs", .glo "are_rows_of", .glo "is_rota", .glo "check_rota", .glo "plain_rota", .glo "by_days", .glo "by_jobs", .glo "day_books", .glo "_law_hash", .glo "_law_random", .glo "_law_cell", .glo "_law_generator", .glo "_law_drawn_order", .glo "_law_exact", .glo "_law_copied", .glo "_law_rows_switched", .glo "_law_turned_rows", .glo "_law_rota", .glo "_law_due", .glo "_law_rota_right", .glo "law", .free "all", .free "bool", .free "enumerate", .free "int", .free "isinstance", .free "len", .free "list", .free "max", .free "range", .free "set", .free "str", .free "sum", .free "tuple", .int "LARGEST" 16]
abbrev G (fuel : Nat) : Glob := ⟨free, cons, kws, prog, fuel⟩
abbrev R : PySem.W.OpenRow := PySem.W.OpenLaw.row PySem.Challenge.rw_surerota_k14_rotas_turned_about
abbrev hk : PySem.W.Hook := He.hookD 4 fa fn
def ob (s : PySem.W.SharedT) : He.AlD := He.obsDG 4 fa fn (HandSHeadRun.getT s)
theorem ob_eq (s : PySem.W.SharedT) : ob s = hk.obs s.abs := He.obsDG_eq (HandSHeadRun.getT_eq s)
theorem run (w : World) : HandSHeadRun.RunEq R (PySem.W.view R.prog [33]) hk ob 4000 ["RotaError", "InvalidSize", "InvalidRota", "LARGEST", "is_whole", "is_count", "is_below", "is_size", "are_unlike", "is_row_of_jobs", "are_rows_of", "is_rota", "check_rota", "plain_rota", "by_days", "by_jobs", "day_books", "_law_hash", "_law_random", "_law_cell", "_law_generator", "_law_drawn_order", "_law_exact", "_law_copied", "_law_rows_switched", "_law_turned_rows", "_law_rota", "_law_due", "_law_rota_right"] w := by
  intro os
  kernel_rfl
section
variable {K : PySem.W.Frag} {h : Heap} {mg : Str → Option Value}
theorem ck0 (c : CallT) (fuel : Nat) : chkSs ⟨free, cons, kws, d_is_whole.N, c, fuel⟩ d_is_whole.body (defScope (top 6)) (defBody (top 6)) = true := by kernel_rfl
theorem fact0 {fuel : Nat} (X : K.In h) (g : h.Ns mainGlobals mg) (c : He.SaysD fa fn K) : ∃ params body scope a fd, FnFact K mg (G fuel) d_is_whole params body scope a fd := by
  obtain ⟨fd, F⟩ := c.def_ 0 (d := mk "is_whole" 6) rfl
  exact ⟨_, _, _, _, fd, ⟨F, He.glo_ok X g (c.fact 0 (f := .glo "is_whole") rfl), ⟨by kernel_rfl, by kernel_rfl, by kernel_rfl, by decide +kernel, by kernel_rfl, by decide +kernel, by decide +kernel⟩, FunD.bindsN F fun _ _ _ _ _ _ us hl => match us, hl with | [_], _ => rfl, rfl, fun ks hk => absurd hk (nokw_of "is_whole" (by kernel_rfl) ks), ck0⟩⟩
theorem ck1 (c : CallT) (fuel : Nat) : chkSs ⟨free, cons, kws, d_is_count.N, c, fuel⟩ d_is_count.body (defScope (top 7)) (defBody (top 7)) = true := by kernel_rfl
theorem fact1 {fuel : Nat} (X : K.In h) (g : h.Ns mainGlobals mg) (c : He.SaysD fa fn K) : ∃ params body scope a fd, FnFact K mg (G fuel) d_is_count params body scope a fd := by
  obtain ⟨fd, F⟩ := c.def_ 1 (d := mk "is_count" 7) rfl
  exact ⟨_, _, _, _, fd, ⟨F, He.glo_ok X g (c.fact 1 (f := .glo "is_count") rfl), ⟨by kernel_rfl, by kernel_rfl, by kernel_rfl, by decide +kernel, by kernel_rfl, by decide +kernel, by decide +kernel⟩, FunD.bindsN F fun _ _ _ _ _ _ us hl => match us, hl with | [_], _ => rfl, rfl, fun ks hk => absurd hk (nokw_of "is_count" (by kernel_rfl) ks), ck1⟩⟩
theorem ck2 (c : CallT) (fuel : Nat) : chkSs ⟨free, cons, kws, d_is_below.N, c, fuel⟩ d_is_below.body (defScope (top 8)) (defBody (top 8)) = true := by kernel_rfl
theorem fact2 {fuel : Nat} (X : K.In h) (g : h.Ns mainGlobals mg) (c : He.SaysD fa fn K) : ∃ params body scope a fd, FnFact K mg (G fuel) d_is_below params body scope a fd := by
  obtain ⟨fd, F⟩ := c.def_ 2 (d := mk "is_below" 8) rfl
  exact ⟨_, _, _, _, fd, ⟨F, He.glo_ok X g (c.fact 2 (f := .glo "is_below") rfl), ⟨by kernel_rfl, by kernel_rfl, by kernel_rfl, by decide +kernel, by kernel_rfl, by decide +kernel, by decide +kernel⟩, FunD.bindsN F fun _ _ _ _ _ _ us hl => match us, hl with | [_, _], _ => rfl, rfl, fun ks hk => absurd hk (nokw_of "is_below" (by kernel_rfl) ks), ck2⟩⟩
theorem ck3 (c : CallT) (fuel : Nat) : chkSs ⟨free, cons, kws, d_is_size.N, c, fuel⟩ d_is_size.body (defScope (top 9)) (defBody (top 9)) = true := by kernel_rfl
theorem fact3 {fuel : Nat} (X : K.In h) (g : h.Ns mainGlobals mg) (c : He.SaysD fa fn K) : ∃ params body scope a fd, FnFact K mg (G fuel) d_is_size params body scope a fd := by
  obtain ⟨fd, F⟩ := c.def_ 3 (d := mk "is_size" 9) rfl
  exact ⟨_, _, _, _, fd, ⟨F, He.glo_ok X g (c.fact 3 (f := .glo "is_size") rfl), ⟨by kernel_rfl, by kernel_rfl, by kernel_rfl, by decide +kernel, by kernel_rfl, by decide +kernel, by decide +kernel⟩, FunD.bindsN F fun _ _ _ _ _ _ us hl => match us, hl with | [_], _ => rfl, rfl, fun ks hk => absurd hk (nokw_of "is_size" (by kernel_rfl) ks), ck3⟩⟩
theorem ck4 (c : CallT) (fuel : Nat) : chkSs ⟨free, cons, kws, d_are_unlike.N, c, fuel⟩ d_are_unlike.body (defScope (top 10)) (defBody (top 10)) = true := by kernel_rfl
theorem fact4 {fuel : Nat} (X : K.In h) (g : h.Ns mainGlobals mg) (c : He.SaysD fa fn K) : ∃ params body scope a fd, FnFact K mg (G fuel) d_are_unlike params body scope a fd := by
  obtain ⟨fd, F⟩ := c.def_ 4 (d := mk "are_unlike" 10) rfl
  exact ⟨_, _, _, _, fd, ⟨F, He.glo_ok X g (c.fact 4 (f := .glo "are_unlike") rfl), ⟨by kernel_rfl, by kernel_rfl, by kernel_rfl, by decide +kernel, by kernel_rfl, by decide +kernel, by decide +kernel⟩, FunD.bindsN F fun _ _ _ _ _ _ us hl => match us, hl with | [_], _ => rfl, rfl, fun ks hk => absurd hk (nokw_of "are_unlike" (by kernel_rfl) ks), ck4⟩⟩
theorem ck5 (c : CallT) (fuel : Nat) : chkSs ⟨free, cons, kws, d_is_row_of_jobs.N, c, fuel⟩ d_is_row_of_jobs.body (defScope (top 11)) (defBody (top 11)) = true := by kernel_rfl
theorem fact5 {fuel : Nat} (X : K.In h) (g : h.Ns mainGlobals mg) (c : He.SaysD fa fn K) : ∃ params body scope a fd, FnFact K mg (G fuel) d_is_row_of_jobs params body scope a fd := by
  obtain ⟨fd, F⟩ := c.def_ 5 (d := mk "is_row_of_jobs" 11) rfl
  exact ⟨_, _, _, _, fd, ⟨F, He.glo_ok X g (c.fact 5 (f := .glo "is_row_of_jobs") rfl), ⟨by kernel_rfl, by kernel_rfl, by kernel_rfl, by decide +kernel, by kernel_rfl, by decide +kernel, by decide +kernel⟩, FunD.bindsN F fun _ _ _ _ _ _ us hl => match us, hl with | [_, _], _ => rfl, rfl, fun ks hk => absurd hk (nokw_of "is_row_of_jobs" (by kernel_rfl) ks), ck5⟩⟩
theorem ck6 (c : CallT) (fuel : Nat) : chkSs ⟨free, cons, kws, d_are_rows_of.N, c, fuel⟩ d_are_rows_of.body (defScope (top 12)) (defBody (top 12)) = true := by kernel_rfl
theorem fact6 {fuel : Nat} (X : K.In h) (g : h.Ns mainGlobals mg) (c : He.SaysD fa fn K) : ∃ params body scope a fd, FnFact K mg (G fuel) d_are_rows_of params body scope a fd := by
  obtain ⟨fd, F⟩ := c.def_ 6 (d := mk "are_rows_of" 12) rfl
  exact ⟨_, _, _, _, fd, ⟨F, He.glo_ok X g (c.fact 6 (f := .glo "are_rows_of") rfl), ⟨by kernel_rfl, by kernel_rfl, by kernel_rfl, by decide +kernel, by kernel_rfl, by decide +kernel, by decide +kernel⟩, FunD.bindsN F fun _ _ _ _ _ _ us hl => match us, hl with | [_, _, _], _ => rfl, rfl, fun ks hk => absurd hk (nokw_of "are_rows_of" (by kernel_rfl) ks), ck6⟩⟩
theorem ck7 (c : CallT) (fuel : Nat) : chkSs ⟨free, cons, kws, d_is_rota.N, c, fuel⟩ d_is_rota.body (defScope (top 13)) (defBody (top 13)) = true := by kernel_rfl
theorem fact7 {fuel : Nat} (X : K.In h) (g : h.Ns mainGlobals mg) (c : He.SaysD fa fn K) : ∃ params body scope a fd, FnFact K mg (G fuel) d_is_rota params body scope a fd := by
  obtain ⟨fd, F⟩ := c.def_ 7 (d := mk "is_rota" 13) rfl
  exact ⟨_, _, _, _, fd, ⟨F, He.glo_ok X g (c.fact 7 (f := .glo "is_rota") rfl), ⟨by kernel_rfl, by kernel_rfl, by kernel_rfl, by decide +kernel, by kernel_rfl, by decide +kernel, by decide +kernel⟩, FunD.bindsN F fun _ _ _ _ _ _ us hl => match us, hl with | [_], _ => rfl, rfl, fun ks hk => absurd hk (nokw_of "is_rota" (by kernel_rfl) ks), ck7⟩⟩
theorem ck8 (c : CallT) (fuel : Nat) : chkSs ⟨free, cons, kws, d_check_rota.N, c, fuel⟩ d_check_rota.body (defScope (top 14)) (defBody (top 14)) = true := by kernel_rfl
theorem fact8 {fuel : Nat} (X : K.In h) (g : h.Ns mainGlobals mg) (c : He.SaysD fa fn K) : ∃ params body scope a fd, FnFact K mg (G fuel) d_check_rota params body scope a fd := by
  obtain ⟨fd, F⟩ := c.def_ 8 (d := mk "check_rota" 14) rfl
  exact ⟨_, _, _, _, fd, ⟨F, He.glo_ok X g (c.fact 8 (f := .glo "check_rota") rfl), ⟨by kernel_rfl, by kernel_rfl, by kernel_rfl, by decide +kernel, by kernel_rfl, by decide +kernel, by decide +kernel⟩, FunD.bindsN F fun _ _ _ _ _ _ us hl => match us, hl with | [_], _ => rfl, rfl, fun ks hk => absurd hk (nokw_of "check_rota" (by kernel_rfl) ks), ck8⟩⟩
theorem ck9 (c : CallT) (fuel : Nat) : chkSs ⟨free, cons, kws, d_plain_rota.N, c, fuel⟩ d_plain_rota.body (defScope (top 16)) (defBody (top 16)) = true := by kernel_rfl
theorem kwb9_0 {fd : FuncData} {a : Addr} (F : FunD K "plain_rota" "plain_rota" (defArgs (top 16)) (defBody (top 16)) (defScope (top 16)) [] [] a fd) : KBinds K fd d_plain_rota.params ["size"] (permK 1 [0]) (permK 1 [0]) :=
  kb_of F (by decide) fun _ _ _ _ _ _ ws hl => match ws, hl with | [w0], _ => rfl
theorem kw9 {fuel : Nat} {fd : FuncData} {a : Addr} (F : FunD K "plain_rota" "plain_rota" (defArgs (top 16)) (defBody (top 16)) (defScope (top 16)) [] [] a fd) : ∀ ks : List Str × List Nat, (("plain_rota" : Str), ks) ∈ (G fuel).kws → KBinds K fd d_plain_rota.params ks.1 (permK ks.1.length ks.2) (permK ks.1.length ks.2) := by
  intro ks hk
  have hk : ks ∈ kwOf kws "plain_rota" := kwOf_mem hk
  have e : kwOf kws "plain_rota" = ([(["size"], [0])] : List (List Str × List Nat)) := by kernel_rfl
  rw [e] at hk
  simp only [List.mem_cons, List.not_mem_nil, or_false] at hk
  rcases hk with rfl
  · exact kwb9_0 F
theorem fact9 {fuel : Nat} (X : K.In h) (g : h.Ns mainGlobals mg) (c : He.SaysD fa fn K) : ∃ params body scope a fd, FnFact K mg (G fuel) d_plain_rota params body scope a fd := by
  obtain ⟨fd, F⟩ := c.def_ 9 (d := mk "plain_rota" 16) rfl
  exact ⟨_, _, _, _, fd, ⟨F, He.glo_ok X g (c.fact 9 (f := .glo "plain_rota") rfl), ⟨by kernel_rfl, by kernel_rfl, by kernel_rfl, by decide +kernel, by kernel_rfl, by decide +kernel, by decide +kernel⟩, FunD.bindsN F fun _ _ _ _ _ _ us hl => match us, hl with | [_], _ => rfl, rfl, kw9 F, ck9⟩⟩
theorem ck10 (c : CallT) (fuel : Nat) : chkSs ⟨free, cons, kws, d_by_days.N, c, fuel⟩ d_by_days.body (defScope (top 17)) (defBody (top 17)) = true := by kernel_rfl
theorem kwb10_0 {fd : FuncData} {a : Addr} (F : FunD K "by_days" "by_days" (defArgs (top 17)) (defBody (top 17)) (defScope (top 17)) [] [] a fd) : KBinds K fd d_by_days.params ["rota"] (permK 1 [0]) (permK 1 [0]) :=
  kb_of F (by decide) fun _ _ _ _ _ _ ws hl => match ws, hl with | [w0], _ => rfl
theorem kw10 {fuel : Nat} {fd : FuncData} {a : Addr} (F : FunD K "by_days" "by_days" (defArgs (top 17)) (defBody (top 17)) (defScope (top 17)) [] [] a fd) : ∀ ks : List Str × List Nat, (("by_days" : Str), ks) ∈ (G fuel).kws → KBinds K fd d_by_days.params ks.1 (permK ks.1.length ks.2) (permK ks.1.length ks.2) := by
  intro ks hk
  have hk : ks ∈ kwOf kws "by_days" := kwOf_mem hk
  have e : kwOf kws "by_days" = ([(["rota"], [0])] : List (List Str × List Nat)) := by kernel_rfl
  rw [e] at hk
  simp only [List.mem_cons, List.not_mem_nil, or_false] at hk
  rcases hk with rfl
  · exact kwb10_0 F
theorem fact10 {fuel : Nat} (X : K.In h) (g : h.Ns mainGlobals mg) (c : He.SaysD fa fn K) : ∃ params body scope a fd, FnFact K mg (G fuel) d_by_days params body scope a fd := by
  obtain ⟨fd, F⟩ := c.def_ 10 (d := mk "by_days" 17) rfl
  exact ⟨_, _, _, _, fd, ⟨F, He.glo_ok X g (c.fact 10 (f := .glo "by_days") rfl), ⟨by kernel_rfl, by kernel_rfl, by kernel_rfl, by decide +kernel, by kernel_rfl, by decide +kernel, by decide +kernel⟩, FunD.bindsN F fun _ _ _ _ _ _ us hl => match us, hl with | [_], _ => rfl, rfl, kw10 F, ck10⟩⟩
theorem ck11 (c : CallT) (fuel : Nat) : chkSs ⟨free, cons, kws, d_by_jobs.N, c, fuel⟩ d_by_jobs.body (defScope (top 18)) (defBody (top 18)) = true := by kernel_rfl
theorem kwb11_0 {fd : FuncData} {a : Addr} (F : FunD K "by_jobs" "by_jobs" (defArgs (top 18)) (defBody (top 18)) (defScope (top 18)) [] [] a fd) : KBinds K fd d_by_jobs.params ["rota"] (permK 1 [0]) (permK 1 [0]) :=
  kb_of F (by decide) fun _ _ _ _ _ _ ws hl => match ws, hl with | [w0], _ => rfl
theorem kw11 {fuel : Nat} {fd : FuncData} {a : Addr} (F : FunD K "by_jobs" "by_jobs" (defArgs (top 18)) (defBody (top 18)) (defScope (top 18)) [] [] a fd) : ∀ ks : List Str × List Nat, (("by_jobs" : Str), ks) ∈ (G fuel).kws → KBinds K fd d_by_jobs.params ks.1 (permK ks.1.length ks.2) (permK ks.1.length ks.2) := by
  intro ks hk
  have hk : ks ∈ kwOf kws "by_jobs" := kwOf_mem hk
  have e : kwOf kws "by_jobs" = ([(["rota"], [0])] : List (List Str × List Nat)) := by kernel_rfl
  rw [e] at hk
  simp only [List.mem_cons, List.not_mem_nil, or_false] at hk
  rcases hk with rfl
  · exact kwb11_0 F
theorem fact11 {fuel : Nat} (X : K.In h) (g : h.Ns mainGlobals mg) (c : He.SaysD fa fn K) : ∃ params body scope a fd, FnFact K mg (G fuel) d_by_jobs params body scope a fd := by
  obtain ⟨fd, F⟩ := c.def_ 11 (d := mk "by_jobs" 18) rfl
  exact ⟨_, _, _, _, fd, ⟨F, He.glo_ok X g (c.fact 11 (f := .glo "by_jobs") rfl), ⟨by kernel_rfl, by kernel_rfl, by kernel_rfl, by decide +kernel, by kernel_rfl, by decide +kernel, by decide +kernel⟩, FunD.bindsN F fun _ _ _ _ _ _ us hl => match us, hl with | [_], _ => rfl, rfl, kw11 F, ck11⟩⟩
theorem ck12 (c : CallT) (fuel : Nat) : chkSs ⟨free, cons, kws, d_day_books.N, c, fuel⟩ d_day_books.body (defScope (top 19)) (defBody (top 19)) = true := by kernel_rfl
theorem kwb12_0 {fd : FuncData} {a : Addr} (F : FunD K "day_books" "day_books" (defArgs (top 19)) (defBody (top 19)) (defScope (top 19)) [] [] a fd) : KBinds K fd d_day_books.params ["rota"] (permK 1 [0]) (permK 1 [0]) :=
  kb_of F (by decide) fun _ _ _ _ _ _ ws hl => match ws, hl with | [w0], _ => rfl
theorem kw12 {fuel : Nat} {fd : FuncData} {a : Addr} (F : FunD K "day_books" "day_books" (defArgs (top 19)) (defBody (top 19)) (defScope (top 19)) [] [] a fd) : ∀ ks : List Str × List Nat, (("day_books" : Str), ks) ∈ (G fuel).kws → KBinds K fd d_day_books.params ks.1 (permK ks.1.length ks.2) (permK ks.1.length ks.2) := by
  intro ks hk
  have hk : ks ∈ kwOf kws "day_books" := kwOf_mem hk
  have e : kwOf kws "day_books" = ([(["rota"], [0])] : List (List Str × List Nat)) := by kernel_rfl
  rw [e] at hk
  simp only [List.mem_cons, List.not_mem_nil, or_false] at hk
  rcases hk with rfl
  · exact kwb12_0 F
theorem fact12 {fuel : Nat} (X : K.In h) (g : h.Ns mainGlobals mg) (c : He.SaysD fa fn K) : ∃ params body scope a fd, FnFact K mg (G fuel) d_day_books params body scope a fd := by
  obtain ⟨fd, F⟩ := c.def_ 12 (d := mk "day_books" 19) rfl
  exact ⟨_, _, _, _, fd, ⟨F, He.glo_ok X g (c.fact 12 (f := .glo "day_books") rfl), ⟨by kernel_rfl, by kernel_rfl, by kernel_rfl, by decide +kernel, by kernel_rfl, by decide +kernel, by decide +kernel⟩, FunD.bindsN F fun _ _ _ _ _ _ us hl => match us, hl with | [_], _ => rfl, rfl, kw12 F, ck12⟩⟩
theorem ck13 (c : CallT) (fuel : Nat) : chkSs ⟨free, cons, kws, w_hash.N, c, fuel⟩ w_hash.body (defScope (top 21)) (defBody (top 21)) = true := by kernel_rfl
theorem fact13 {fuel : Nat} (X : K.In h) (g : h.Ns mainGlobals mg) (c : He.SaysD fa fn K) : ∃ params body scope a fd, FnFact K mg (G fuel) w_hash params body scope a fd := by
  obtain ⟨fd, F⟩ := c.def_ 13 (d := mk "_law_hash" 21) rfl
  exact ⟨_, _, _, _, fd, ⟨F, He.glo_ok X g (c.fact 13 (f := .glo "_law_hash") rfl), ⟨by kernel_rfl, by kernel_rfl, by kernel_rfl, by decide +kernel, by kernel_rfl, by decide +kernel, by decide +kernel⟩, FunD.bindsN F fun _ _ _ _ _ _ us hl => match us, hl with | [_, _], _ => rfl, rfl, fun ks hk => absurd hk (nokw_of "_law_hash" (by kernel_rfl) ks), ck13⟩⟩
theorem ck14 (c : CallT) (fuel : Nat) : chkSs ⟨free, cons, kws, w_random.N, c, fuel⟩ w_random.body (defScope (top 22)) (defBody (top 22)) = true := by kernel_rfl
theorem fact14 {fuel : Nat} (X : K.In h) (g : h.Ns mainGlobals mg) (c : He.SaysD fa fn K) : ∃ params body scope a fd, FnFact K mg (G fuel) w_random params body scope a fd := by
  obtain ⟨fd, F⟩ := c.def_ 14 (d := mk "_law_random" 22) rfl
  exact ⟨_, _, _, _, fd, ⟨F, He.glo_ok X g (c.fact 14 (f := .glo "_law_random") rfl), ⟨by kernel_rfl, by kernel_rfl, by kernel_rfl, by decide +kernel, by kernel_rfl, by decide +kernel, by decide +kernel⟩, FunD.bindsN F fun _ _ _ _ _ _ us hl => match us, hl with | [_, _], _ => rfl, rfl, fun ks hk => absurd hk (nokw_of "_law_random" (by kernel_rfl) ks), ck14⟩⟩
theorem ck15 (c : CallT) (fuel : Nat) : chkSs ⟨free, cons, kws, w_cell.N, c, fuel⟩ w_cell.body (defScope (top 23)) (defBody (top 23)) = true := by kernel_rfl
theorem fact15 {fuel : Nat} (X : K.In h) (g : h.Ns mainGlobals mg) (c : He.SaysD fa fn K) : ∃ params body scope a fd, FnFact K mg (G fuel) w_cell params body scope a fd := by
  obtain ⟨fd, F⟩ := c.def_ 15 (d := mk "_law_cell" 23) rfl
  exact ⟨_, _, _, _, fd, ⟨F, He.glo_ok X g (c.fact 15 (f := .glo "_law_cell") rfl), ⟨by kernel_rfl, by kernel_rfl, by kernel_rfl, by decide +kernel, by kernel_rfl, by decide +kernel, by decide +kernel⟩, FunD.bindsN F fun _ _ _ _ _ _ us hl => match us, hl with | [_, _], _ => rfl, rfl, fun ks hk => absurd hk (nokw_of "_law_cell" (by kernel_rfl) ks), ck15⟩⟩
theorem ck16 (c : CallT) (fuel : Nat) : chkSs ⟨free, cons, kws, w_generator.N, c, fuel⟩ w_generator.body (defScope (top 24)) (defBody (top 24)) = true := by kernel_rfl
theorem fact16 {fuel : Nat} (X : K.In h) (g : h.Ns mainGlobals mg) (c : He.SaysD fa fn K) : ∃ params body scope a fd, FnFact K mg (G fuel) w_generator params body scope a fd := by
  obtain ⟨fd, F⟩ := c.def_ 16 (d := mk "_law_generator" 24) rfl
  exact ⟨_, _, _, _, fd, ⟨F, He.glo_ok X g (c.fact 16 (f := .glo "_law_generator") rfl), ⟨by kernel_rfl, by kernel_rfl, by kernel_rfl, by decide +kernel, by kernel_rfl, by decide +kernel, by decide +kernel⟩, FunD.bindsN F fun _ _ _ _ _ _ us hl => match us, hl with | [_, _], _ => rfl, rfl, fun ks hk => absurd hk (nokw_of "_law_generator" (by kernel_rfl) ks), ck16⟩⟩
theorem ck17 (c : CallT) (fuel : Nat) : chkSs ⟨free, cons, kws, w_drawn_order.N, c, fuel⟩ w_drawn_order.body (defScope (top 25)) (defBody (top 25)) = true := by kernel_rfl
theorem fact17 {fuel : Nat} (X : K.In h) (g : h.Ns mainGlobals mg) (c : He.SaysD fa fn K) : ∃ params body scope a fd, FnFact K mg (G fuel) w_drawn_order params body scope a fd := by
  obtain ⟨fd, F⟩ := c.def_ 17 (d := mk "_law_drawn_order" 25) rfl
  exact ⟨_, _, _, _, fd, ⟨F, He.glo_ok X g (c.fact 17 (f := .glo "_law_drawn_order") rfl), ⟨by kernel_rfl, by kernel_rfl, by kernel_rfl, by decide +kernel, by kernel_rfl, by decide +kernel, by decide +kernel⟩, FunD.bindsN F fun _ _ _ _ _ _ us hl => match us, hl with | [_, _], _ => rfl, rfl, fun ks hk => absurd hk (nokw_of "_law_drawn_order" (by kernel_rfl) ks), ck17⟩⟩
theorem ck18 (c : CallT) (fuel : Nat) : chkSs ⟨free, cons, kws, w_exact.N, c, fuel⟩ w_exact.body (defScope (top 26)) (defBody (top 26)) = true := by kernel_rfl
theorem fact18 {fuel : Nat} (X : K.In h) (g : h.Ns mainGlobals mg) (c : He.SaysD fa fn K) : ∃ params body scope a fd, FnFact K mg (G fuel) w_exact params body scope a fd := by
  obtain ⟨fd, F⟩ := c.def_ 18 (d := mk "_law_exact" 26) rfl
  exact ⟨_, _, _, _, fd, ⟨F, He.glo_ok X g (c.fact 18 (f := .glo "_law_exact") rfl), ⟨by kernel_rfl, by kernel_rfl, by kernel_rfl, by decide +kernel, by kernel_rfl, by decide +kernel, by decide +kernel⟩, FunD.bindsN F fun _ _ _ _ _ _ us hl => match us, hl with | [_, _], _ => rfl, rfl, fun ks hk => absurd hk (nokw_of "_law_exact" (by kernel_rfl) ks), ck18⟩⟩
theorem ck19 (c : CallT) (fuel : Nat) : chkSs ⟨free, cons, kws, w_copied.N, c, fuel⟩ w_copied.body (defScope (top 27)) (defBody (top 27)) = true := by kernel_rfl
theorem fact19 {fuel : Nat} (X : K.In h) (g : h.Ns mainGlobals mg) (c : He.SaysD fa fn K) : ∃ params body scope a fd, FnFact K mg (G fuel) w_copied params body scope a fd := by
  obtain ⟨fd, F⟩ := c.def_ 19 (d := mk "_law_copied" 27) rfl
  exact ⟨_, _, _, _, fd, ⟨F, He.glo_ok X g (c.fact 19 (f := .glo "_law_copied") rfl), ⟨by kernel_rfl, by kernel_rfl, by kernel_rfl, by decide +kernel, by kernel_rfl, by decide +kernel, by decide +kernel⟩, FunD.bindsN F fun _ _ _ _ _ _ us hl => match us, hl with | [_], _ => rfl, rfl, fun ks hk => absurd hk (nokw_of "_law_copied" (by kernel_rfl) ks), ck19⟩⟩
theorem ck20 (c : CallT) (fuel : Nat) : chkSs ⟨free, cons, kws, w_rows_switched.N, c, fuel⟩ w_rows_switched.body (defScope (top 28)) (defBody (top 28)) = true := by kernel_rfl
theorem fact20 {fuel : Nat} (X : K.In h) (g : h.Ns mainGlobals mg) (c : He.SaysD fa fn K) : ∃ params body scope a fd, FnFact K mg (G fuel) w_rows_switched params body scope a fd := by
  obtain ⟨fd, F⟩ := c.def_ 20 (d := mk "_law_rows_switched" 28) rfl
  exact ⟨_, _, _, _, fd, ⟨F, He.glo_ok X g (c.fact 20 (f := .glo "_law_rows_switched") rfl), ⟨by kernel_rfl, by kernel_rfl, by kernel_rfl, by decide +kernel, by kernel_rfl, by decide +kernel, by decide +kernel⟩, FunD.bindsN F fun _ _ _ _ _ _ us hl => match us, hl with | [_, _], _ => rfl, rfl, fun ks hk => absurd hk (nokw_of "_law_rows_switched" (by kernel_rfl) ks), ck20⟩⟩
theorem ck21 (c : CallT) (fuel : Nat) : chkSs ⟨free, cons, kws, w_turned_rows.N, c, fuel⟩ w_turned_rows.body (defScope (top 29)) (defBody (top 29)) = true := by kernel_rfl
theorem fact21 {fuel : Nat} (X : K.In h) (g : h.Ns mainGlobals mg) (c : He.SaysD fa fn K) : ∃ params body scope a fd, FnFact K mg (G fuel) w_turned_rows params body scope a fd := by
  obtain ⟨fd, F⟩ := c.def_ 21 (d := mk "_law_turned_rows" 29) rfl
  exact ⟨_, _, _, _, fd, ⟨F, He.glo_ok X g (c.fact 21 (f := .glo "_law_turned_rows") rfl), ⟨by kernel_rfl, by kernel_rfl, by kernel_rfl, by decide +kernel, by kernel_rfl, by decide +kernel, by decide +kernel⟩, FunD.bindsN F fun _ _ _ _ _ _ us hl => match us, hl with | [_], _ => rfl, rfl, fun ks hk => absurd hk (nokw_of "_law_turned_rows" (by kernel_rfl) ks), ck21⟩⟩
theorem ck22 (c : CallT) (fuel : Nat) : chkSs ⟨free, cons, kws, w_rota.N, c, fuel⟩ w_rota.body (defScope (top 30)) (defBody (top 30)) = true := by kernel_rfl
theorem fact22 {fuel : Nat} (X : K.In h) (g : h.Ns mainGlobals mg) (c : He.SaysD fa fn K) : ∃ params body scope a fd, FnFact K mg (G fuel) w_rota params body scope a fd := by
  obtain ⟨fd, F⟩ := c.def_ 22 (d := mk "_law_rota" 30) rfl
  exact ⟨_, _, _, _, fd, ⟨F, He.glo_ok X g (c.fact 22 (f := .glo "_law_rota") rfl), ⟨by kernel_rfl, by kernel_rfl, by kernel_rfl, by decide +kernel, by kernel_rfl, by decide +kernel, by decide +kernel⟩, FunD.bindsN F fun _ _ _ _ _ _ us hl => match us, hl with | [_, _], _ => rfl, rfl, fun ks hk => absurd hk (nokw_of "_law_rota" (by kernel_rfl) ks), ck22⟩⟩
theorem ck23 (c : CallT) (fuel : Nat) : chkSs ⟨free, cons, kws, w_due.N, c, fuel⟩ w_due.body (defScope (top 31)) (defBody (top 31)) = true := by kernel_rfl
theorem fact23 {fuel : Nat} (X : K.In h) (g : h.Ns mainGlobals mg) (c : He.SaysD fa fn K) : ∃ params body scope a fd, FnFact K mg (G fuel) w_due params body scope a fd := by
  obtain ⟨fd, F⟩ := c.def_ 23 (d := mk "_law_due" 31) rfl
  exact ⟨_, _, _, _, fd, ⟨F, He.glo_ok X g (c.fact 23 (f := .glo "_law_due") rfl), ⟨by kernel_rfl, by kernel_rfl, by kernel_rfl, by decide +kernel, by kernel_rfl, by decide +kernel, by decide +kernel⟩, FunD.bindsN F fun _ _ _ _ _ _ us hl => match us, hl with | [_], _ => rfl, rfl, fun ks hk => absurd hk (nokw_of "_law_due" (by kernel_rfl) ks), ck23⟩⟩
theorem ck24 (c : CallT) (fuel : Nat) : chkSs ⟨free, cons, kws, w_rota_right.N, c, fuel⟩ w_rota_right.body (defScope (top 32)) (defBody (top 32)) = true := by kernel_rfl
theorem fact24 {fuel : Nat} (X : K.In h) (g : h.Ns mainGlobals mg) (c : He.SaysD fa fn K) : ∃ params body scope a fd, FnFact K mg (G fuel) w_rota_right params body scope a fd := by
  obtain ⟨fd, F⟩ := c.def_ 24 (d := mk "_law_rota_right" 32) rfl
  exact ⟨_, _, _, _, fd, ⟨F, He.glo_ok X g (c.fact 24 (f := .glo "_law_rota_right") rfl), ⟨by kernel_rfl, by kernel_rfl, by kernel_rfl, by decide +kernel, by kernel_rfl, by decide +kernel, by decide +kernel⟩, FunD.bindsN F fun _ _ _ _ _ _ us hl => match us, hl with | [_], _ => rfl, rfl, fun ks hk => absurd hk (nokw_of "_law_rota_right" (by kernel_rfl) ks), ck24⟩⟩
theorem ck25 (c : CallT) (fuel : Nat) : chkSs ⟨free, cons, kws, d_law.N, c, fuel⟩ d_law.body (defScope (top 33)) (defBody (top 33)) = true := by kernel_rfl
theorem fact25 {fuel : Nat} (X : K.In h) (g : h.Ns mainGlobals mg) (c : He.SaysD fa fn K) : ∃ params body scope a fd, FnFact K mg (G fuel) d_law params body scope a fd := by
  obtain ⟨fd, F⟩ := c.def_ 25 (d := mk "law" 33) rfl
  exact ⟨_, _, _, _, fd, ⟨F, He.glo_ok X g (c.fact 25 (f := .glo "law") rfl), ⟨by kernel_rfl, by kernel_rfl, by kernel_rfl, by decide +kernel, by kernel_rfl, by decide +kernel, by decide +kernel⟩, FunD.bindsN F fun _ _ _ _ _ _ us hl => match us, hl with | [_], _ => rfl, rfl, fun ks hk => absurd hk (nokw_of "law" (by kernel_rfl) ks), ck25⟩⟩
theorem facts {fuel : Nat} (X : K.In h) (g : h.Ns mainGlobals mg) (c : He.SaysD fa fn K) : Facts K mg (G fuel) := by
  refine ⟨fun f hf => ?_, fun x hx => ?_, fun x i hx => ?_⟩
  · have hf : f ∈ prog := hf
    simp only [prog, List.mem_cons, List.not_mem_nil, or_false] at hf
    rcases hf with rfl | rfl | rfl | rfl | rfl | rfl | rfl | rfl | rfl | rfl | rfl | rfl | rfl | rfl | rfl | rfl | rfl | rfl | rfl | rfl | rfl | rfl | rfl | rfl | rfl | rfl
    · exact fact0 X g c
    · exact fact1 X g c
    · exact fact2 X g c
    · exact fact3 X g c
    · exact fact4 X g c
    · exact fact5 X g c
    · exact fact6 X g c
    · exact fact7 X g c
    · exact fact8 X g c
    · exact fact9 X g c
    · exact fact10 X g c
    · exact fact11 X g c
    · exact fact12 X g c
    · exact fact13 X g c
    · exact fact14 X g c
    · exact fact15 X g c
    · exact fact16 X g c
    · exact fact17 X g c
    · exact fact18 X g c
    · exact fact19 X g c
    · exact fact20 X g c
    · exact fact21 X g c
    · exact fact22 X g c
    · exact fact23 X g c
    · exact fact24 X g c
    · exact fact25 X g c
  · have hx : x ∈ free := hx
    simp only [free, List.mem_cons, List.not_mem_nil, or_false] at hx
    rcases hx with rfl | rfl | rfl | rfl | rfl | rfl | rfl | rfl | rfl | rfl | rfl | rfl | rfl
    · exact He.free_ok X g (c.fact 26 (f := .free "all") rfl)
    · exact He.free_ok X g (c.fact 27 (f := .free "bool") rfl)
    · exact He.free_ok X g (c.fact 28 (f := .free "enumerate") rfl)
    · exact He.free_ok X g (c.fact 29 (f := .free "int") rfl)
    · exact He.free_ok X g (c.fact 30 (f := .free "isinstance") rfl)
    · exact He.free_ok X g (c.fact 31 (f := .free "len") rfl)
    · exact He.free_ok X g (c.fact 32 (f := .free "list") rfl)
    · exact He.free_ok X g (c.fact 33 (f := .free "max") rfl)
    · exact He.free_ok X g (c.fact 34 (f := .free "range") rfl)
    · exact He.free_ok X g (c.fact 35 (f := .free "set") rfl)
    · exact He.free_ok X g (c.fact 36 (f := .free "str") rfl)
    · exact He.free_ok X g (c.fact 37 (f := .free "sum") rfl)
    · exact He.free_ok X g (c.fact 38 (f := .free "tuple") rfl)
  · have hx : (x, i) ∈ cons := hx
    simp only [cons, List.mem_cons, List.not_mem_nil, or_false, Prod.mk.injEq] at hx
    rcases hx with ⟨rfl, rfl⟩
    · exact He.int_ok X g (c.fact 39 (f := .int "LARGEST" 16) rfl)
theorem lawF {fuel k : Nat} {Pg : Program} {w : World} {f : Addr} (X : K.In h) (g : h.Ns mainGlobals mg) (hfa : mg ("law" : Str) = some (.ref f)) (c : He.SaysD fa fn K) :
    ∃ fd : FuncData, (∀ (s : Shared) (v : Value), BindsTo s fd ⟨[v], []⟩ [("script", v)]) ∧ ∀ base : Heap, FnOk Pg w K mg base CX0 (k + 1) f fd ["script"] (spOf K (G fuel) k d_law) := by
  obtain ⟨fd, F⟩ := c.def_ 25 (d := mk "law" 33) rfl
  have e := hfa.symm.trans (He.glo_ok X g (c.fact 25 (f := .glo "law") rfl))
  cases e
  have b := FunD.bindsA (ps := ["script"]) F fun _ _ _ _ _ _ us hl => match us, hl with | [_], _ => rfl
  have FF : FnFact K mg (G fuel) d_law _ _ _ _ fd := ⟨F, He.glo_ok X g (c.fact 25 (f := .glo "law") rfl), ⟨by kernel_rfl, by kernel_rfl, by kernel_rfl, by decide +kernel, by kernel_rfl, by decide +kernel, by decide +kernel⟩, FunD.bindsN F fun _ _ _ _ _ _ us hl => match us, hl with | [_], _ => rfl, rfl, fun ks hk => absurd hk (nokw_of "law" (by kernel_rfl) ks), ck25⟩
  exact ⟨fd, fun s v => b s [v] rfl, fun base => fn_level (facts X g c) k d_law _ _ _ _ _ FF⟩
end
end LawK
set_option maxRecDepth 100000
set_option maxHeartbeats 0
namespace LawK
open PySem Eng Lib
theorem fns : K14.Fns prog where
  whole := by kernel_rfl
  count := by kernel_rfl
  below := by kernel_rfl
  size := by kernel_rfl
  unlike := by kernel_rfl
  rowj := by kernel_rfl
  rows := by kernel_rfl
  rota := by kernel_rfl
  hash := by kernel_rfl
  random := by kernel_rfl
  order := by kernel_rfl
  switched := by kernel_rfl
  turned := by kernel_rfl
  drota := by kernel_rfl
  check := by kernel_rfl
  days := by kernel_rfl
  jobs := by kernel_rfl
  books := by kernel_rfl
  plain := by kernel_rfl
  exact_ := by kernel_rfl
  copied := by kernel_rfl
  due := by kernel_rfl
  right := by kernel_rfl
  cell := by kernel_rfl
  gen := by kernel_rfl
theorem law_is_true (ns : List Int) (hl : ns.length ≤ 63) : runF (callF (G 100).fs (G 100).fuel 9) (G 100).fuel LawK.d_law [.val (frnD (ns.map .int))] = some (.fz (.bool true), []) := K14.law_true (k := 0) fns (by decide) ns
end LawK
open PySem PySem.W PySem.Calls PyProof.Rows
theorem PySem.Challenge.cw_surerota_k14_rotas_turned_about_holds : PySem.Challenge.rw_surerota_k14_rotas_turned_about.Holds := by
  w_on; o_law
  refine HandSHeadRun.head_any (r := OpenLaw.row PySem.Challenge.rw_surerota_k14_rotas_turned_about) (q := view (OpenLaw.row PySem.Challenge.rw_surerota_k14_rotas_turned_about).prog [33]) (H := LawK.hk) (ob := LawK.ob) (M := 4000) (loose := ["RotaError", "InvalidSize", "InvalidRota", "LARGEST", "is_whole", "is_count", "is_below", "is_size", "are_unlike", "is_row_of_jobs", "are_rows_of", "is_rota", "check_rota", "plain_rota", "by_days", "by_jobs", "day_books", "_law_hash", "_law_random", "_law_cell", "_law_generator", "_law_drawn_order", "_law_exact", "_law_copied", "_law_rows_switched", "_law_turned_rows", "_law_rota", "_law_due", "_law_rota_right"]) (d := HandSHeadRun.topDef (OpenLaw.row PySem.Challenge.rw_surerota_k14_rotas_turned_about).prog 33) (kwd := []) LawK.ob_eq
    (by kernel_rfl) (fun s => by kernel_rfl) LawK.run (by kernel_rfl) (by kernel_rfl) (by kernel_rfl) (by rfl) (by first | assumption | decide +kernel) (by decide +kernel) ⟨rfl, rfl, rfl, rfl, rfl, by decide +kernel⟩ ?hw ?hc
  case hw => w_witness2
  case hc =>
    refine L2.walk_ofE (l := PySem.Challenge.rw_surerota_k14_rotas_turned_about) (n := 63) (k := 9 + 1) (x := "script") (CX := L2.CX0) rfl (by decide) (by kernel_rfl) ⟨rfl, by decide, by decide⟩ ?F (fun _ _ _ _ z => z)
    intro w mg fa h Y G hmg0
    obtain ⟨K, KX, c⟩ := Y
    have hmg : mg ("law" : PySem.Str) = some (.ref fa) := by
      have e : (HandSHeadRun.topDef (OpenLaw.row PySem.Challenge.rw_surerota_k14_rotas_turned_about).prog 33).name = ("law" : PySem.Str) := by kernel_rfl
      rw [← e]
      exact hmg0
    obtain ⟨fd, hb, hF⟩ := LawK.lawF (fuel := 100) (k := 9) (Pg := (PySem.Challenge.rw_surerota_k14_rotas_turned_about).prog) (w := w) KX G hmg c
    exact ⟨K, fd, _, KX, hb, fun H a ns hl _ hS => Eng.law_sp hS (LawK.law_is_true ns hl), fun base _ _ => hF base⟩
