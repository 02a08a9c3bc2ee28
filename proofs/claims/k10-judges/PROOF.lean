import PyProof.Rows.All
import Wide.All
import OpenK.AllK
import Wide.FinOn
import HandS.ForMost
import HandS.ForExc
import HandS.Deep
import HandS.IsInst
import HandS.Conv
import HandS.Zip
import HandS.Flow
import HandS.CallLocal
import HandS.SortInts
import HandS.TupMul
import HandS.SetFor
import HandS.TupAny
import KE.GoesEnum
import PyProof.AutoIntOps
import HandS.WordsExc
import PySem.Challenge.RW_partedbyties_k10_judges_and_odd_things
set_option Elab.async false
set_option linter.all false
set_option maxRecDepth 100000
set_option maxHeartbeats 4000000
/-! # Values without a heap (D), a small language (C, S) with its plain meaning (ev, evS), and what stands between them and the hand layer -/
namespace Pv
open PySem PySem.Spec PyProof.Rows L2

/-! ## 1. data -/
inductive D where
  | non | bl (b : Bool) | int (i : Int) | str (x : Str) | tup (l : List D) | lst (l : List D) | scr (l : List Int) | fn (k : Nat)

/-- what is fixed through a law: the written part, where the defs and the classes of errors stand -/
structure Gm where
  K : PySem.W.Frag
  fa : Nat → Addr
  ca : Nat → Addr
  /-- of each def: whether it changes its first argument, how many arguments -/
  ar : Nat → Option (Bool × Nat)

mutual
inductive Dat (g : Gm) (m : Addr → Prop) (H : Hp) : V → D → Prop
  | non : Dat g m H .non .non
  | bl (b : Bool) : Dat g m H (.bl b) (.bl b)
  | int (i : Int) : Dat g m H (.int i) (.int i)
  | str (x : Str) : x.length ≤ sizeLine → Dat g m H (.str x) (.str x)
  | fn (k : Nat) : Dat g m H (.ref (g.fa k)) (.fn k)
  | scrF {a : Addr} {o : Obj} {ns : List Int} : H a = some (.frz o (.lst (ns.map V.int))) → ¬ m a → Dat g m H (.ref a) (.scr ns)
  | scrK {a : Addr} {ns : List Int} : (∃ (o : Obj) (its : Array Value) (n : Nat), g.K.lookup a = some o ∧ o.cls = .type "list" ∧ o.dict = none ∧ o.data = .seq its n ∧ its.size ≤ sizeLine ∧ Vals (ns.map V.int) its.toList) → Dat g m H (.ref a) (.scr ns)
  | lst {a : Addr} {xs : List V} {ds : List D} : H a = some (.lst xs) → ¬ m a → xs.length ≤ sizeLine → DatL g m H xs ds → Dat g m H (.ref a) (.lst ds)
  | tup {a : Addr} {xs : List V} {ds : List D} : H a = some (.tup xs) → ¬ m a → xs.length ≤ sizeLine → DatL g m H xs ds → Dat g m H (.ref a) (.tup ds)
inductive DatL (g : Gm) (m : Addr → Prop) (H : Hp) : List V → List D → Prop
  | nil : DatL g m H [] []
  | cons {v : V} {vs : List V} {d : D} {ds : List D} : Dat g m H v d → DatL g m H vs ds → DatL g m H (v :: vs) (d :: ds)
end
section
variable {g : Gm} {m m' : Addr → Prop} {H H' : Hp}
mutual
theorem Dat.mono (hk : ∀ a o, ¬ m a → H a = some o → H' a = some o) (hm : ∀ a o, m' a → H a = some o → m a) : ∀ {d : D} {v : V}, Dat g m H v d → Dat g m' H' v d
  | .non, _, h => by cases h; exact .non
  | .bl _, _, h => by cases h; exact .bl _
  | .int _, _, h => by cases h; exact .int _
  | .str _, _, h => by cases h with | str _ q => exact .str _ q
  | .fn _, _, h => by cases h; exact .fn _
  | .scr _, _, h => by
    cases h with
    | scrF e n => exact .scrF (hk _ _ n e) fun z => n (hm _ _ z e)
    | scrK e => exact .scrK e
  | .lst ds, _, h => by
    cases h with
    | lst e n z t => exact .lst (hk _ _ n e) (fun z => n (hm _ _ z e)) z (DatL.mono hk hm t)
  | .tup ds, _, h => by
    cases h with
    | tup e n z t => exact .tup (hk _ _ n e) (fun z => n (hm _ _ z e)) z (DatL.mono hk hm t)
theorem DatL.mono (hk : ∀ a o, ¬ m a → H a = some o → H' a = some o) (hm : ∀ a o, m' a → H a = some o → m a) : ∀ {ds : List D} {vs : List V}, DatL g m H vs ds → DatL g m' H' vs ds
  | [], _, h => by cases h; exact .nil
  | d :: ds, _, h => by
    cases h with
    | cons a t => exact .cons (Dat.mono hk hm a) (DatL.mono hk hm t)
end
theorem DatL.length : ∀ {vs : List V} {ds : List D}, DatL g m H vs ds → vs.length = ds.length
  | _, _, .nil => rfl
  | _, _, .cons _ t => by rw [List.length_cons, List.length_cons, DatL.length t]
theorem DatL.get : ∀ {vs : List V} {ds : List D} {i : Nat} {d : D}, DatL g m H vs ds → ds[i]? = some d → ∃ v, vs[i]? = some v ∧ Dat g m H v d
  | _, _, _, _, .nil, e => by simp at e
  | _, _, 0, _, .cons r _, e => by simp at e; subst e; exact ⟨_, rfl, r⟩
  | _, _, i + 1, _, .cons _ t, e => by
    obtain ⟨v, h1, h2⟩ := DatL.get (i := i) t (by simpa using e)
    exact ⟨v, by simpa using h1, h2⟩
theorem DatL.append : ∀ {vs ws : List V} {ds es : List D}, DatL g m H vs ds → DatL g m H ws es → DatL g m H (vs ++ ws) (ds ++ es)
  | _, _, _, _, .nil, s => s
  | _, _, _, _, .cons r t, s => .cons r (DatL.append t s)
theorem DatL.take : ∀ {vs : List V} {ds : List D} (n : Nat), DatL g m H vs ds → DatL g m H (vs.take n) (ds.take n)
  | _, _, 0, _ => .nil
  | _, _, _ + 1, .nil => .nil
  | _, _, n + 1, .cons r t => .cons r (DatL.take n t)
theorem DatL.drop : ∀ {vs : List V} {ds : List D} (n : Nat), DatL g m H vs ds → DatL g m H (vs.drop n) (ds.drop n)
  | _, _, 0, r => r
  | _, _, _ + 1, .nil => .nil
  | _, _, n + 1, .cons _ t => DatL.drop n t
theorem DatL.set {v : V} {d : D} (r : Dat g m H v d) : ∀ {vs : List V} {ds : List D} (i : Nat), DatL g m H vs ds → DatL g m H (vs.set i v) (ds.set i d)
  | _, _, _, .nil => .nil
  | _, _, 0, .cons _ t => .cons r t
  | _, _, i + 1, .cons q t => .cons q (DatL.set r i t)
theorem DatL.eraseIdx : ∀ {vs : List V} {ds : List D} (i : Nat), DatL g m H vs ds → DatL g m H (vs.eraseIdx i) (ds.eraseIdx i)
  | _, _, _, .nil => .nil
  | _, _, 0, .cons _ t => t
  | _, _, i + 1, .cons r t => .cons r (DatL.eraseIdx i t)
theorem DatL.dropLast {vs : List V} {ds : List D} (h : DatL g m H vs ds) : DatL g m H vs.dropLast ds.dropLast := by
  rw [List.dropLast_eq_take, List.dropLast_eq_take, h.length]
  exact h.take _
theorem DatL.reverse : ∀ {vs : List V} {ds : List D}, DatL g m H vs ds → DatL g m H vs.reverse ds.reverse
  | _, _, .nil => .nil
  | _, _, .cons r t => by rw [List.reverse_cons, List.reverse_cons]; exact (DatL.reverse t).append (.cons r .nil)
theorem DatL.rep {vs : List V} {ds : List D} (h : DatL g m H vs ds) : ∀ k : Nat, DatL g m H (List.replicate k vs).flatten (List.replicate k ds).flatten
  | 0 => .nil
  | k + 1 => by
    rw [List.replicate_succ, List.replicate_succ, List.flatten_cons, List.flatten_cons]
    exact h.append (DatL.rep h k)
theorem DatL.ints : ∀ {ns : List Int} {vs : List V}, DatL g m H vs (ns.map D.int) → vs = ns.map V.int
  | [], _, h => by cases h; rfl
  | n :: ns, _, h => by
    rw [List.map_cons] at h
    cases h with
    | cons a t => cases a; rw [DatL.ints t]; rfl
theorem DatL.of_ints : ∀ {ns : List Int}, DatL g m H (ns.map V.int) (ns.map D.int)
  | [] => .nil
  | n :: ns => .cons (.int n) DatL.of_ints
theorem DatL.bls : ∀ {ns : List Bool} {vs : List V}, DatL g m H vs (ns.map D.bl) → vs = ns.map V.bl
  | [], _, h => by cases h; rfl
  | n :: ns, _, h => by
    rw [List.map_cons] at h
    cases h with
    | cons a t => cases a; rw [DatL.bls t]; rfl
theorem Dat.lt_none (h0 : ∀ a, m a → H a ≠ none) {v : V} {d : D} (h : Dat g m H v d) {p : Addr} (hp : H p = none) : Dat g (fun a => m a ∨ a = p) H v d :=
  h.mono (fun _ _ _ e => e) fun a o z e => z.elim (fun z => z) fun z => by subst z; rw [hp] at e; cases e
end

/-! ## 2. data at any depth, for == -/
mutual
def toPy : D → PyData
  | .non => .none
  | .bl b => .bool b
  | .int i => .int i
  | .str x => .str x
  | .tup l => .tuple (toPyL l)
  | .lst l => .list (toPyL l)
  | .scr _ => .none
  | .fn _ => .none
def toPyL : List D → List PyData
  | [] => []
  | d :: l => toPy d :: toPyL l
end
mutual
/-- no def, no script in it -/
def plain : D → Bool
  | .tup l => plainL l
  | .lst l => plainL l
  | .scr _ => false
  | .fn _ => false
  | _ => true
def plainL : List D → Bool
  | [] => true
  | d :: l => plain d && plainL l
end
mutual
/-- no list in it -/
def free : D → Bool
  | .tup l => freeL l
  | .lst _ => false
  | .scr _ => false
  | _ => true
def freeL : List D → Bool
  | [] => true
  | d :: l => free d && freeL l
end
def okD (d : D) : Bool := plain d && SeqAt.shaped (toPy d)
def eqv (a b : D) : Bool := PyData.eqv (toPy a) (toPy b)
mutual
theorem Dat.dp {g : Gm} {m : Addr → Prop} {H : Hp} : ∀ {d : D} {v : V}, plain d = true → Dat g m H v d → Dp g.K H v (toPy d)
  | .non, _, _, h => by cases h; exact .non
  | .bl _, _, _, h => by cases h; exact .bl _
  | .int _, _, _, h => by cases h; exact .int _
  | .str _, _, _, h => by cases h; exact .str _
  | .fn _, _, p, _ => by cases p
  | .scr _, _, p, _ => by cases p
  | .lst ds, _, p, h => by
    cases h with
    | lst e n z t => exact .lst (SqL.of e) (DatL.dp p t)
  | .tup ds, _, p, h => by
    cases h with
    | tup e n z t => exact .tup (SqT.of e) (DatL.dp p t)
theorem DatL.dp {g : Gm} {m : Addr → Prop} {H : Hp} : ∀ {ds : List D} {vs : List V}, plainL ds = true → DatL g m H vs ds → DpAll g.K H vs (toPyL ds)
  | [], _, _, h => by cases h; exact .nil
  | d :: ds, _, p, h => by
    cases h with
    | cons a t =>
      have p' : (plain d && plainL ds) = true := p
      rw [Bool.and_eq_true] at p'
      exact .cons (Dat.dp p'.1 a) (DatL.dp p'.2 t)
end

/-! ## 3. the language and its plain meaning -/
/-- a slot: nothing yet, a thing that may be known elsewhere, a list that nobody else knows -/
inductive Ent where
  | un | sh (d : D) | ow (l : List D)
abbrev Sl := List Ent
inductive R (α : Type) where
  | ok (a : α) (e : Sl) | ex (k : Nat) (p : Option D) (e : Sl) | bad
def R.bind {α β : Type} (r : R α) (f : α → Sl → R β) : R β := match r with
  | .ok a e => f a e
  | .ex k p e => .ex k p e
  | .bad => .bad
/-- a value, or a slot that holds a list of one's own (read where it is used) -/
abbrev Vr := Sum D Nat
def vget (e : Sl) : Vr → Option D
  | .inl d => some d
  | .inr i => match e[i]? with
    | some (.ow l) => some (.lst l)
    | some (.sh d) => some d
    | _ => none
def vgets (e : Sl) : List Vr → Option (List D)
  | [] => some []
  | x :: xs => match vget e x, vgets e xs with
    | some d, some ds => some (d :: ds)
    | _, _ => none
def small (i : Int) : Bool := decide (-(2 ^ 64) < i) && decide (i < 2 ^ 64)
def LIM : Nat := 16777216

/-! ### two-place operations -/
def pAdd : D → D → Option D
  | .int i, .int j => some (.int (i + j))
  | .str x, .str y => if x.length + y.length ≤ LIM then some (.str (x ++ y)) else none
  | .tup a, .tup b => if a.length + b.length ≤ LIM then some (.tup (a ++ b)) else none
  | .lst a, .lst b => if a.length + b.length ≤ LIM then some (.lst (a ++ b)) else none
  | _, _ => none
def pSub : D → D → Option D
  | .int i, .int j => some (.int (i - j))
  | _, _ => none
def pMul : D → D → Option D
  | .int i, .int j => if small i || small j then some (.int (i * j)) else none
  | .lst a, .int k => if small k && decide (-(2 ^ 62) < k) && decide (k < 2 ^ 62) && decide (a.length * k.toNat ≤ LIM) then some (.lst (List.replicate k.toNat a).flatten) else none
  | .tup a, .int k => if a.isEmpty = false ∧ 2 ≤ k ∧ k ≤ 1000 ∧ a.length ≤ 1000 then some (.tup (List.replicate k.toNat a).flatten) else none
  | _, _ => none
def pMod : D → D → Option D
  | .int i, .int j => if 0 < j then some (.int (i % j)) else none
  | _, _ => none
def pDiv : D → D → Option D
  | .int i, .int j => if 0 < j ∧ j < 1073741824 then some (.int (i / j)) else none
  | _, _ => none
def pPow : D → D → Option D
  | .int i, .int j => if 0 ≤ j ∧ j ≤ 1000000 ∧ i.natAbs < 2 ^ 64 then some (.int (i ^ j.toNat)) else none
  | _, _ => none
def pEq (a b : D) : Option D := if okD a && okD b then some (.bl (eqv a b)) else none
def pNe (a b : D) : Option D := if okD a && okD b then some (.bl (!eqv a b)) else none
/-- the ints of a list -/
def intsD : List D → Option (List Int)
  | [] => some []
  | .int i :: l => (intsD l).map (i :: ·)
  | _ :: _ => none
def boolsD : List D → Option (List Bool)
  | [] => some []
  | .bl i :: l => (boolsD l).map (i :: ·)
  | _ :: _ => none
def pLt : D → D → Option D
  | .int i, .int j => some (.bl (decide (i < j)))
  | .str x, .str y => some (.bl (decide (x.cps.toList < y.cps.toList)))
  | .tup a, .tup b => match intsD a, intsD b with
    | some x, some y => some (.bl (HT.lexLt x y))
    | _, _ => none
  | _, _ => none
def pLe : D → D → Option D
  | .int i, .int j => some (.bl (decide (i ≤ j)))
  | _, _ => none
def pGt : D → D → Option D
  | .int i, .int j => some (.bl (decide (j < i)))
  | _, _ => none
def pGe : D → D → Option D
  | .int i, .int j => some (.bl (decide (j ≤ i)))
  | _, _ => none
def items : D → Option (List D)
  | .tup l => some l
  | .lst l => some l
  | _ => none
def sameSeq : D → D → Bool
  | .tup _, .tup _ => true
  | .lst _, .lst _ => true
  | _, _ => false
def pIn (neg : Bool) (d : D) : D → Option D
  | .tup l => if okD d && okD (.tup l) then some (.bl (if neg then !l.any (fun z => eqv z d) else l.any (fun z => eqv z d))) else none
  | .lst l => if okD d && okD (.lst l) then some (.bl (if neg then !l.any (fun z => eqv z d) else l.any (fun z => eqv z d))) else none
  | .str y => match d with
    | .str x => some (.bl (if neg then !(!(Builtin.Str.occurrences y x 0 y.length 1).isEmpty) else !(Builtin.Str.occurrences y x 0 y.length 1).isEmpty))
    | _ => none
  | _ => none
def isNon : D → Bool
  | .non => true
  | _ => false
def pIx : D → D → Option D
  | .tup l, .int i => atI l i
  | .lst l, .int i => atI l i
  | .scr l, .int i => (atI l i).map .int
  | .str x, .int i => (atI x.cps.toList i).map fun c => .str ⟨#[c]⟩
  | _, _ => none
inductive P2 where
  | add | sub | mul | mod | div | pow | eq | ne | lt | le | gt | ge | isin | notin | ix
def p2 : P2 → D → D → Option D
  | .add => pAdd | .sub => pSub | .mul => pMul | .mod => pMod | .div => pDiv | .pow => pPow | .eq => pEq | .ne => pNe | .lt => pLt | .le => pLe | .gt => pGt | .ge => pGe
  | .isin => pIn false | .notin => pIn true | .ix => pIx

/-! ### built-ins of one argument, of two -/
def tyN : D → Option String
  | .non => some "NoneType" | .bl _ => some "bool" | .int _ => some "int" | .str _ => some "str" | .tup _ => some "tuple" | .lst _ => some "list" | .scr _ => some "list" | .fn _ => none
def isTy (n t : String) : Bool := (n == t) || (n == "bool" && t == "int")
def leastOf : Int → List Int → Int
  | x, [] => x
  | x, y :: r => leastOf (if y < x then y else x) r
def mostOf : Int → List Int → Int
  | x, [] => x
  | x, y :: r => mostOf (if x < y then y else x) r
inductive P1 where
  | len | all | any | sum | max | min | abs | int | tuple | list | neg | isi (ts : List String) | isN | notN | not | sorted | lenset
def pLen : D → Option D
  | .tup l => some (.int l.length)
  | .lst l => some (.int l.length)
  | .scr l => some (.int l.length)
  | .str x => some (.int x.length)
  | _ => none
def truth : D → Option Bool
  | .non => some false
  | .bl b => some b
  | .int i => some (i != 0)
  | .str y => some ((y.length : Int) != 0)
  | .lst l => some (!l.isEmpty)
  | .tup l => some (!l.isEmpty)
  | _ => none
def insI (x : Int) : List Int → List Int
  | [] => [x]
  | y :: r => if x ≤ y then x :: y :: r else y :: insI x r
def sortI : List Int → List Int
  | [] => []
  | x :: r => insI x (sortI r)
def p1 : P1 → D → Option D
  | .len, d => pLen d
  | .all, .lst l => (boolsD l).map fun bs => .bl (bs.all id)
  | .any, .lst l => (boolsD l).map fun bs => .bl (bs.any id)
  | .sum, .lst l => (intsD l).map fun is => .int is.sum
  | .sum, .tup l => (intsD l).map fun is => .int is.sum
  | .max, .lst l => (intsD l).bind fun is => match is with
    | [] => none
    | x :: r => some (.int (mostOf x r))
  | .max, .tup l => (intsD l).bind fun is => match is with
    | [] => none
    | x :: r => some (.int (mostOf x r))
  | .min, .lst l => (intsD l).bind fun is => match is with
    | [] => none
    | x :: r => some (.int (leastOf x r))
  | .min, .tup l => (intsD l).bind fun is => match is with
    | [] => none
    | x :: r => some (.int (leastOf x r))
  | .abs, .int i => some (.int (if i < 0 then -i else i))
  | .int, .int i => some (.int i)
  | .int, .bl b => some (.int (if b then 1 else 0))
  | .tuple, .tup l => some (.tup l)
  | .tuple, .lst l => some (.tup l)
  | .list, .tup l => some (.lst l)
  | .list, .lst l => some (.lst l)
  | .neg, .int i => some (.int (-i))
  | .isi ts, d => (tyN d).map fun n => .bl (ts.any (isTy n))
  | .isN, d => some (.bl (isNon d))
  | .notN, d => some (.bl (!isNon d))
  | .not, d => (truth d).map fun b => .bl (!b)
  | .sorted, .lst l => (intsD l).map fun is => .lst ((sortI is).map .int)
  | .lenset, .tup l => (intsD l).bind fun is => if is.length ≤ 4000 then some (.int is.eraseDups.length) else none
  | _, _ => none
inductive P22 where
  | max | min
def p22 : P22 → D → D → Option D
  | .max, .int i, .int j => some (.int (if j > i then j else i))
  | .min, .int i, .int j => some (.int (if j < i then j else i))
  | _, _, _ => none
/-- a slice's part -/
def cutD (l : List D) (lo hi : Option Int) : List D := (l.drop (HT.sIx l.length 0 lo)).take (HT.sIx l.length l.length hi - HT.sIx l.length 0 lo)
def pSlice (lo hi : Option Int) : D → Option D
  | .tup l => some (.tup (cutD l lo hi))
  | .lst l => some (.lst (cutD l lo hi))
  | .scr l => some (.lst (cutD (l.map .int) lo hi))
  | .str y => some (.str (L2.cutS y lo hi))
  | _ => none
def rng (lo hi : Int) : List D := (List.range (hi - lo).toNat).map fun i => D.int (lo + (i : Nat))
def okR (i : Int) : Bool := decide (-(2 ^ 62) ≤ i) && decide (i < 2 ^ 62)
def enumD : Nat → List D → List D
  | _, [] => []
  | i, d :: l => .tup [.int (i : Nat), d] :: enumD (i + 1) l
def zipD : List D → List D → List D
  | a :: l, b :: r => .tup [a, b] :: zipD l r
  | _, _ => []

/-! ### targets -/
inductive Tg where
  | n (i : Nat) | ts (l : List Nat)
def Tg.elem (i : Nat) : Tg → Bool
  | .n j => j == i
  | .ts l => l.contains i
def put1 (e : Sl) (i : Nat) (d : D) : Option Sl := match e[i]? with
  | some (.ow _) => none
  | some _ => some (e.set i (.sh d))
  | none => none
def puts : Sl → List Nat → List D → Option Sl
  | e, [], [] => some e
  | e, i :: l, d :: ds => (put1 e i d).bind fun e' => puts e' l ds
  | _, _, _ => none
def put (e : Sl) : Tg → D → Option Sl
  | .n i, d => put1 e i d
  | .ts l, .tup ds => puts e l ds
  | _, _ => none
def wipeE (e : Sl) : List Nat → Sl
  | [] => e
  | v :: vs => (wipeE e vs).set v .un
def noOw (e : Sl) (vs : List Nat) : Bool := vs.all fun v => match e[v]? with
  | some (.ow _) => false
  | some _ => true
  | none => false
/-- the slots vs as they stand in e0, all others as in e -/
def backE (e0 : Sl) (e : Sl) : List Nat → Sl
  | [] => e
  | v :: vs => (backE e0 e vs).set v (e0.getD v .un)

inductive Fr where
  | ok (d : D) (t : Option (List D)) | ex (k : Nat) (p : Option D) | bad
abbrev Orc := Nat → Option (List D) → List D → Fr
mutual
inductive C where
  | var (i : Nat) | con (d : D)
  | tup (as : As) | lst (as : As)
  | and (a b : C) | or (a b : C) | ife (t a b : C)
  | op1 (p : P1) (a : Ag) | op2 (p : P2) (a b : Ag) | op22 (p : P22) (a b : Ag)
  | chain (p q : P2) (a b c : C)
  | slice (a : Ag) (lo hi : Pt)
  | listR (lo hi : C) | tupleR (lo hi : C)
  | call (fl : Bool) (f : Nat) (as : As) | callT (fl : Bool) (f : Nat) (i : Nat) (as : As) | callV (i : Nat) (as : As)
  | comp (it : It) (g : Tg) (t : Tt) (el : C) (vs : List Nat)
  | comp2 (it : It) (g : Tg) (t : Tt) (it1 : It) (g1 : Tg) (t1 : Tt) (el : C) (vs vs1 : List Nat)
  | pop (i : Nat) | popAt (i : Nat) (a : C)
inductive Ag where
  | c (c : C) | b (i : Nat)
inductive As where
  | nil | cons (a : Ag) (r : As)
inductive Pt where
  | no | c (c : C)
inductive Tt where
  | yes | c (c : C)
inductive It where
  | c (c : Ag) | rng1 (hi : C) | rng2 (lo hi : C) | enum (c : Ag) | zip (a b : Ag)
end
/-- may hand out a list that nobody else knows -/
def isF : C → Bool
  | .lst _ => true
  | .or a b => isF a && isF b
  | .op1 .list _ => true
  | .op1 .sorted _ => true
  | .op2 .add _ _ => true
  | .op2 .mul _ _ => true
  | .listR _ _ => true
  | .slice _ _ _ => true
  | .comp .. => true
  | .comp2 .. => true
  | .call fl _ _ => fl
  | .callT fl _ _ _ => fl
  | _ => false
/-- in a comprehension nothing may be raised -/
def R.calm {α : Type} (r : R α) : R α := match r with
  | .ok a e => .ok a e
  | _ => .bad
def opt {α : Type} (o : Option α) (e : Sl) : R α := match o with
  | some a => .ok a e
  | none => .bad
/-- a loop's laps: assign, test, element -/
def compGo (as : D → Sl → Option Sl) (tt : Sl → R Bool) (el : Sl → List D → R (List D)) (vs : List Nat) : List D → List D → Sl → R (List D)
  | [], acc, e => .ok acc e
  | x :: xs, acc, e => (opt (as x (wipeE e vs)) e).bind fun e1 _ => (tt e1).calm.bind fun b e2 => if b = true then (el e2 acc).calm.bind fun acc' e3 => if noOw e3 vs = true then compGo as tt el vs xs acc' e3 else .bad
      else if noOw e2 vs = true then compGo as tt el vs xs acc e2 else .bad
def oneMore (r : R D) (acc : List D) : R (List D) := r.bind fun d e => if acc.length < LIM then .ok (acc ++ [d]) e else .bad
def isOw (e : Sl) : Vr → Bool
  | .inl _ => false
  | .inr i => match e[i]? with
    | some (.ow _) => true
    | _ => false
def freeR (fl : Bool) : D → Bool
  | .lst l => fl && freeL l
  | d => free d
def frOf (fl : Bool) (e : Sl) (xs : List Vr) : Fr → R D
  | .ok d none => if xs.any (isOw e) && !freeR fl d then .bad else .ok d e
  | .ex k p => .ex k p e
  | _ => .bad
section
variable (Φ : Orc)
mutual
def ev : C → Sl → R D
  | .var i, e => match e[i]? with
    | some (.sh d) => .ok d e
    | _ => .bad
  | .con d, e => .ok d e
  | .tup as, e => (evAs as e).bind fun xs e1 => (opt (vgets e1 xs) e1).bind fun ds e1 => if xs.any (isOw e1) || decide (LIM < ds.length) then .bad else .ok (.tup ds) e1
  | .lst as, e => (evAs as e).bind fun xs e1 => (opt (vgets e1 xs) e1).bind fun ds e1 => if xs.any (isOw e1) || decide (LIM < ds.length) then .bad else .ok (.lst ds) e1
  | .and a b, e => (ev a e).bind fun d e1 => (opt (truth d) e1).bind fun k e1 => if k = true then ev b e1 else .ok d e1
  | .or a b, e => (ev a e).bind fun d e1 => (opt (truth d) e1).bind fun k e1 => if k = true then .ok d e1 else ev b e1
  | .ife t a b, e => (ev t e).bind fun d e1 => (opt (truth d) e1).bind fun k e1 => if k = true then ev a e1 else ev b e1
  | .op1 p a, e => (evG a e).bind fun x e1 => (opt (vget e1 x) e1).bind fun d e1 => opt (p1 p d) e1
  | .op2 p a b, e => (evG a e).bind fun x e1 => (evG b e1).bind fun y e2 => (opt (vget e2 x) e2).bind fun d e2 => (opt (vget e2 y) e2).bind fun d' e2 => opt (p2 p d d') e2
  | .op22 p a b, e => (evG a e).bind fun x e1 => (evG b e1).bind fun y e2 => (opt (vget e2 x) e2).bind fun d e2 => (opt (vget e2 y) e2).bind fun d' e2 => opt (p22 p d d') e2
  | .chain p q a b c, e => (ev a e).bind fun x e1 => (ev b e1).bind fun y e2 => (opt (p2 p x y) e2).bind fun z e2 => (opt (truth z) e2).bind fun k e2 => if k = true then (ev c e2).bind fun w e3 => opt (p2 q y w) e3 else .ok (.bl false) e2
  | .slice a lo hi, e => (evG a e).bind fun x e1 => (evP lo e1).bind fun l e2 => (evP hi e2).bind fun h e3 => (opt (vget e3 x) e3).bind fun d e3 => opt (pSlice l h d) e3
  | .listR lo hi, e => (ev lo e).bind fun a e1 => (ev hi e1).bind fun b e2 => match a, b with
    | .int i, .int j => if okR i && okR j && decide ((j - i).toNat ≤ LIM) then .ok (.lst (rng i j)) e2 else .bad
    | _, _ => .bad
  | .tupleR lo hi, e => (ev lo e).bind fun a e1 => (ev hi e1).bind fun b e2 => match a, b with
    | .int i, .int j => if okR i && okR j && decide ((j - i).toNat ≤ LIM) then .ok (.tup (rng i j)) e2 else .bad
    | _, _ => .bad
  | .call fl f as, e => (evAs as e).bind fun xs e1 => (opt (vgets e1 xs) e1).bind fun ds e1 => frOf fl e1 xs (Φ f none ds)
  | .callT fl f i as, e => match e[i]? with
    | some (.ow _) => (evAs as e).bind fun xs e1 => (opt (vgets e1 xs) e1).bind fun ds e1 => if xs.any (isOw e1) then .bad else match e1[i]? with
      | some (.ow t) => (match Φ f (some t) ds with
        | .ok d (some t') => .ok d (e1.set i (.ow t'))
        | _ => .bad)
      | _ => .bad
    | _ => .bad
  | .callV i as, e => match e[i]? with
    | some (.sh (.fn f)) => (evAs as e).calm.bind fun xs e1 => (opt (vgets e1 xs) e1).bind fun ds e1 => frOf false e1 xs (Φ f none ds)
    | _ => .bad
  | .comp it g t el vs, e => (evI it e).bind fun l e1 => if noOw e1 vs = true then
      (compGo (fun d e => put e g d) (evT t) (fun e acc => oneMore (ev el e) acc) vs l [] e1).bind fun r e2 => .ok (.lst r) (backE e1 (wipeE e2 vs) vs)
    else .bad
  | .comp2 it g t it1 g1 t1 el vs vs1, e => (evI it e).bind fun l e1 => if noOw e1 vs = true then
      (compGo (fun d e => put e g d) (evT t) (fun e acc => (evI it1 e).bind fun l1 e2 => if noOw e2 vs1 = true then (compGo (fun d e => put e g1 d) (evT t1) (fun e acc => oneMore (ev el e) acc) vs1 l1 acc e2).bind fun r e3 => .ok r (backE e2 (wipeE e3 vs1) vs1) else .bad) vs l [] e1).bind fun r e2 => .ok (.lst r) (backE e1 (wipeE e2 vs) vs)
    else .bad
  | .pop i, e => match e[i]? with
    | some (.ow l) => (match l.getLast? with
      | some d => .ok d (e.set i (.ow l.dropLast))
      | none => .bad)
    | _ => .bad
  | .popAt i a, e => match e[i]? with
    | some (.ow _) => (ev a e).bind fun k e1 => match k, e1[i]? with
      | .int k, some (.ow l) => if 0 ≤ k ∧ k < l.length ∧ k < 2 ^ 62 then (match l[k.toNat]? with
        | some d => .ok d (e1.set i (.ow (l.eraseIdx k.toNat)))
        | none => .bad) else .bad
      | _, _ => .bad
    | _ => .bad
def evG : Ag → Sl → R Vr
  | .c c, e => (ev c e).bind fun d e1 => .ok (.inl d) e1
  | .b i, e => match e[i]? with
    | some (.ow _) => .ok (.inr i) e
    | some (.sh _) => .ok (.inr i) e
    | _ => .bad
def evAs : As → Sl → R (List Vr)
  | .nil, e => .ok [] e
  | .cons a r, e => (evG a e).bind fun x e1 => (evAs r e1).bind fun xs e2 => .ok (x :: xs) e2
def evP : Pt → Sl → R (Option Int)
  | .no, e => .ok none e
  | .c c, e => (ev c e).bind fun d e1 => match d with
    | .int i => .ok (some i) e1
    | _ => .bad
def evT : Tt → Sl → R Bool
  | .yes, e => .ok true e
  | .c c, e => (ev c e).bind fun d e1 => opt (truth d) e1
def evI : It → Sl → R (List D)
  | .c c, e => (evG c e).bind fun x e1 => if isOw e1 x then .bad else (opt (vget e1 x) e1).bind fun d e1 => opt (items d) e1
  | .rng1 hi, e => (ev hi e).bind fun d e1 => match d with
    | .int i => if okR i then .ok (rng 0 i) e1 else .bad
    | _ => .bad
  | .rng2 lo hi, e => (ev lo e).bind fun a e1 => (ev hi e1).bind fun b e2 => match a, b with
    | .int i, .int j => if okR i && okR j then .ok (rng i j) e2 else .bad
    | _, _ => .bad
  | .enum c, e => (evG c e).bind fun x e1 => if isOw e1 x then .bad else (opt (vget e1 x) e1).bind fun d e1 => (opt (items d) e1).bind fun l e1 => .ok (enumD 0 l) e1
  | .zip a b, e => (evG a e).bind fun x e1 => (evG b e1).bind fun y e2 => if isOw e2 x || isOw e2 y then .bad else (opt (vget e2 x) e2).bind fun d e2 => (opt (vget e2 y) e2).bind fun d' e2 =>
      if sameSeq d d' = true then (opt (items d) e2).bind fun l e2 => (opt (items d') e2).bind fun l' e2 => .ok (zipD l l') e2 else .bad
end
end

/-! ### statements -/
inductive Fl where
  | nx | bk | ct | rt (d : D)
mutual
inductive S where
  | set (i : Nat) (c : C) | setOw (i : Nat) (c : C) | asg (g : Tg) (c : C)
  | par (i j : Nat) (a b : C) (oa ob : Bool)
  | app (i : Nat) (a : C) | ext (i : Nat) (a : C) | subset (i : Nat) (k : C) (a : C)
  | aug (i : Nat) (p : P2) (a : C) | augS (i : Nat) (k : C) (p : P2) (a : C)
  | ifs (c : C) (a b : Ss) | whil (c : C) (b : Ss) | forS (it : It) (g : Tg) (b : Ss)
  | ret (c : C) | retOw (i : Nat) | retN | exprS (c : C) | raise (k : Nat) (a : Pt)
  | frz (i : Nat) | kill (i : Nat) | pass | brk | cont | nev
inductive Ss where
  | nil | cons (s : S) (r : Ss)
end
def forGo (as : D → Sl → Option Sl) (body : Sl → R Fl) : List D → Sl → R Fl
  | [], e => .ok .nx e
  | x :: xs, e => (opt (as x e) e).bind fun e1 _ => (body e1).bind fun f e2 => match f with
    | .nx => forGo as body xs e2
    | .ct => forGo as body xs e2
    | .bk => .ok .nx e2
    | .rt d => .ok (.rt d) e2
def whGo (test : Sl → R Bool) (body : Sl → R Fl) : Nat → Sl → R Fl
  | 0, _ => .bad
  | n + 1, e => (test e).bind fun b e1 => if b = true then (body e1).bind fun f e2 => (match f with
      | .nx => whGo test body n e2
      | .ct => whGo test body n e2
      | .bk => .ok .nx e2
      | .rt d => .ok (.rt d) e2)
    else .ok .nx e1
def isOwE : Ent → Bool
  | .ow _ => true
  | _ => false
def owD : D → Option Ent
  | .lst l => some (.ow l)
  | _ => none
/-- a store of a shared thing (o = false), of a new list (o = true); the slot 0 keeps the list that the caller gave -/
def putO (e : Sl) (i : Nat) (o : Bool) (d : D) : Option Sl := match e[i]? with
  | none => none
  | some u => if (isOwE u && decide (i = 0)) = true then none else (if o = true then (owD d).map fun u => e.set i u else some (e.set i (.sh d)))
/-- a op= b, ints -/
def augOp : P2 → D → D → Option D
  | .add, .int i, .int j => some (.int (i + j))
  | .sub, .int i, .int j => some (.int (i - j))
  | .mul, .int i, .int j => if small i || small j then some (.int (i * j)) else none
  | _, _, _ => none
def augGet (l : List D) : D → Option D
  | .int k => atI l k
  | _ => none
def augSet (l : List D) : D → D → Option (List D)
  | .int k, z => (ixN l.length k).map fun j => l.set j z
  | _, _ => none
def ownAt (e : Sl) (i : Nat) : Option (List D) := match e[i]? with
  | some (.ow l) => some l
  | _ => none
section
variable (Φ : Orc) (N : Nat)
mutual
def evS : S → Sl → R Fl
  | .set i c, e => (ev Φ c e).bind fun d e1 => (opt (putO e1 i false d) e1).bind fun e2 _ => .ok .nx e2
  | .setOw i c, e => (ev Φ c e).bind fun d e1 => (opt (putO e1 i true d) e1).bind fun e2 _ => .ok .nx e2
  | .asg g c, e => (ev Φ c e).bind fun d e1 => (opt (put e1 g d) e1).bind fun e2 _ => .ok .nx e2
  | .par i j a b oa ob, e => (ev Φ a e).bind fun d e1 => (ev Φ b e1).bind fun d' e2 => (opt (putO e2 i oa d) e2).bind fun e3 _ => (opt (putO e3 j ob d') e3).bind fun e4 _ => .ok .nx e4
  | .app i a, e => match e[i]? with
    | some (.ow _) => (ev Φ a e).bind fun d e1 => (opt (ownAt e1 i) e1).bind fun l e1 => if l.length < LIM then .ok .nx (e1.set i (.ow (l ++ [d]))) else .bad
    | _ => .bad
  | .ext i a, e => match e[i]? with
    | some (.ow _) => (ev Φ a e).bind fun d e1 => (opt (ownAt e1 i) e1).bind fun l e1 => match d with
      | .lst l' => if l.length + l'.length ≤ LIM then .ok .nx (e1.set i (.ow (l ++ l'))) else .bad
      | _ => .bad
    | _ => .bad
  | .subset i k a, e => match e[i]? with
    | some (.ow _) => (ev Φ a e).bind fun d e1 => (ev Φ k e1).bind fun k e2 => (opt (ownAt e2 i) e2).bind fun l e2 => match k with
      | .int k => (opt (ixN l.length k) e2).bind fun j e2 => .ok .nx (e2.set i (.ow (l.set j d)))
      | _ => .bad
    | _ => .bad
  | .augS i k p a, e => match e[i]? with
    | some (.ow _) => (ev Φ k e).bind fun k e1 => (opt (ownAt e1 i) e1).bind fun l e1 => (opt (augGet l k) e1).bind fun x e1 => (ev Φ a e1).bind fun y e2 => (opt (ownAt e2 i) e2).bind fun l2 e2 => (opt (augOp p x y) e2).bind fun z e2 => (opt (augSet l2 k z) e2).bind fun l3 e2 => .ok .nx (e2.set i (.ow l3))
    | _ => .bad
  | .aug i p a, e => match e[i]? with
    | some (.sh x) => (ev Φ a e).bind fun d e1 => (opt (augOp p x d) e1).bind fun z e1 => (opt (put1 e1 i z) e1).bind fun e2 _ => .ok .nx e2
    | _ => .bad
  | .ifs c a b, e => (ev Φ c e).bind fun d e1 => (opt (truth d) e1).bind fun k e1 => if k = true then evSs a e1 else evSs b e1
  | .whil c b, e => whGo (fun e => (ev Φ c e).bind fun d e1 => opt (truth d) e1) (evSs b) N e
  | .forS it g b, e => (evI Φ it e).bind fun l e1 => forGo (fun d e => put e g d) (evSs b) l e1
  | .ret c, e => (ev Φ c e).bind fun d e1 => .ok (.rt d) e1
  | .retOw i, e => if i = 0 then .bad else (opt (ownAt e i) e).bind fun l e => .ok (.rt (.lst l)) e
  | .retN, e => .ok (.rt .non) e
  | .exprS c, e => (ev Φ c e).bind fun _ e1 => .ok .nx e1
  | .raise k .no, e => .ex k none e
  | .raise k (.c a), e => (ev Φ a e).bind fun d e1 => .ex k (some d) e1
  | .frz i, e => match e[i]? with
    | some (.ow l) => if i = 0 then .bad else .ok .nx (e.set i (.sh (.lst l)))
    | some _ => .ok .nx e
    | none => .bad
  | .kill i, e => match e[i]? with
    | some (.ow _) => if i = 0 then .bad else .ok .nx (e.set i .un)
    | some _ => .ok .nx (e.set i .un)
    | none => .bad
  | .pass, e => .ok .nx e
  | .brk, e => .ok .bk e
  | .cont, e => .ok .ct e
  | .nev, _ => .bad
def evSs : Ss → Sl → R Fl
  | .nil, e => .ok .nx e
  | .cons s r, e => (evS s e).bind fun f e1 => match f with
    | .nx => evSs r e1
    | f => .ok f e1
end
end
/-- a def: whether its first parameter is a list that it may change, how many others, how many slots in all, its body -/
structure Df where
  io : Bool
  ar : Nat
  sl : Nat
  body : Ss
def entry (f : Df) (t : Option (List D)) (ds : List D) : Sl := (match t with
  | some l => [Ent.ow l]
  | none => []) ++ ds.map Ent.sh ++ List.replicate (f.sl - ds.length - (if t.isSome then 1 else 0)) Ent.un
def endOf (io : Bool) : R Fl → Fr
  | .ok (.rt d) e => if io then (match ownAt e 0 with
      | some l => .ok d (some l)
      | none => .bad) else .ok d none
  | .ok .nx e => if io then (match ownAt e 0 with
      | some l => .ok .non (some l)
      | none => .bad) else .ok .non none
  | .ex k p _ => if io then .bad else .ex k p
  | _ => .bad
/-- the defs of a table, called at most n deep, each while at most N laps -/
def callN (T : Nat → Option Df) (N : Nat) : Nat → Orc
  | 0, _, _, _ => .bad
  | n + 1, f, t, ds => match T f with
    | none => .bad
    | some d => if d.io == t.isSome && ds.length == d.ar then endOf d.io (evSs (callN T N n) N d.body (entry d t ds)) else .bad
end Pv

namespace Pv
open PySem PySem.Spec PyProof.Rows L2

/-! ## 4. slots and the heap -/
/-- fixed through a def's run: what callers own (U), what it may change (M), the heap at its entry -/
structure Kp where
  U : Addr → Prop
  M : Addr → Prop
  H0 : Hp
abbrev Kp.mk' (κ : Kp) (O : Addr → Prop) : Addr → Prop := fun a => κ.U a ∨ O a
structure Rel (g : Gm) (κ : Kp) (O : Addr → Prop) (e : Sl) (σ : L2.St) (H : Hp) : Prop where
  sh : ∀ (i : Nat) (d : D), e[i]? = some (Ent.sh d) → ∃ v : V, σ[i]? = some (some v) ∧ Dat g (κ.mk' O) H v d
  ow : ∀ (i : Nat) (l : List D), e[i]? = some (Ent.ow l) → ∃ (p : Addr) (vs : List V), σ[i]? = some (some (V.ref p)) ∧ O p ∧ H p = some (.lst vs) ∧ vs.length ≤ sizeLine ∧ DatL g (κ.mk' O) H vs l
  inj : ∀ (i j : Nat) (l l' : List D) (p : Addr), e[i]? = some (Ent.ow l) → e[j]? = some (Ent.ow l') → σ[i]? = some (some (V.ref p)) → σ[j]? = some (some (V.ref p)) → i = j
  oe : ∀ p, O p → ∃ (i : Nat) (l : List D), e[i]? = some (Ent.ow l) ∧ σ[i]? = some (some (V.ref p))
  ou : ∀ p, O p → ¬ κ.U p
  fr : ∀ p, O p → κ.M p ∨ κ.H0 p = none
  ul : ∀ p, κ.U p → ∃ vs : List V, H p = some (.lst vs)
  mo : ∀ p, κ.M p → O p ∧ ∃ l : List D, e[0]? = some (Ent.ow l) ∧ σ[0]? = some (some (V.ref p))
  keep : ∀ a o, κ.H0 a = some o → ¬ κ.M a → H a = some o
  len : σ.length = e.length
def Keep (O : Addr → Prop) (H H' : Hp) : Prop := ∀ a o, ¬ O a → H a = some o → H' a = some o
theorem Keep.refl (O : Addr → Prop) (H : Hp) : Keep O H H := fun _ _ _ h => h
theorem Keep.trans {O : Addr → Prop} {H H1 H2 : Hp} (a : Keep O H H1) (b : Keep O H1 H2) : Keep O H H2 := fun x o n h => b x o n (a x o n h)
theorem Keep.new {O : Addr → Prop} {H : Hp} {p : Addr} {u : HO} (h : H p = none) : Keep O H (upd H p u) := fun a o _ e => by
  rw [upd_ne (ne_of_none e h)]
  exact e
theorem Keep.dat {g : Gm} {κ : Kp} {O : Addr → Prop} {H H' : Hp} {v : V} {d : D} (k : Keep O H H') (h : Dat g (κ.mk' O) H v d) : Dat g (κ.mk' O) H' v d :=
  h.mono (fun a o n e => k a o (fun z => n (.inr z)) e) fun _ _ z _ => z
theorem Keep.datL {g : Gm} {κ : Kp} {O : Addr → Prop} {H H' : Hp} {v : List V} {d : List D} (k : Keep O H H') (h : DatL g (κ.mk' O) H v d) : DatL g (κ.mk' O) H' v d :=
  h.mono (fun a o n e => k a o (fun z => n (.inr z)) e) fun _ _ z _ => z
section
variable {g : Gm} {κ : Kp} {O : Addr → Prop} {e : Sl} {σ : L2.St} {H H' : Hp}
theorem Rel.owned (R : Rel g κ O e σ H) {p : Addr} (h : O p) : ∃ vs, H p = some (.lst vs) := by
  obtain ⟨i, l, h1, h2⟩ := R.oe p h
  obtain ⟨p', vs, h3, _, h5, _⟩ := R.ow i l h1
  rw [h2] at h3
  cases h3
  exact ⟨vs, h5⟩
theorem Rel.masked (R : Rel g κ O e σ H) {p : Addr} (h : κ.mk' O p) : ∃ vs, H p = some (.lst vs) := h.elim (R.ul p) fun h => R.owned h
theorem Rel.newNot (R : Rel g κ O e σ H) {p : Addr} (h : H p = none) : ¬ κ.mk' O p := fun z => by
  obtain ⟨vs, q⟩ := R.masked z
  rw [h] at q
  cases q
theorem Rel.new0 (R : Rel g κ O e σ H) {p : Addr} (h : H p = none) : κ.H0 p = none := by
  cases q : κ.H0 p with
  | none => rfl
  | some o =>
    by_cases hm : κ.M p
    · obtain ⟨vs, q2⟩ := R.owned (R.mo p hm).1
      rw [h] at q2; cases q2
    · rw [R.keep p o q hm] at h; cases h
/-- nothing that is owned has changed -/
theorem Rel.grow (R : Rel g κ O e σ H) (k : ∀ a o, H a = some o → H' a = some o) : Rel g κ O e σ H' where
  sh := fun i d h => let ⟨v, h1, h2⟩ := R.sh i d h; ⟨v, h1, Keep.dat (fun a o _ q => k a o q) h2⟩
  ow := fun i l h => let ⟨p, vs, h1, h2, h3, h4, h5⟩ := R.ow i l h; ⟨p, vs, h1, h2, k _ _ h3, h4, Keep.datL (fun a o _ q => k a o q) h5⟩
  inj := R.inj
  oe := R.oe
  ou := R.ou
  fr := R.fr
  ul := fun p h => let ⟨vs, q⟩ := R.ul p h; ⟨vs, k _ _ q⟩
  mo := R.mo
  keep := fun a o h n => k _ _ (R.keep a o h n)
  len := R.len
theorem Rel.newR (R : Rel g κ O e σ H) {p : Addr} {u : HO} (h : H p = none) : Rel g κ O e σ (upd H p u) := R.grow fun a o q => by
  rw [upd_ne (ne_of_none q h)]
  exact q
/-- the list in slot i is changed -/
theorem Rel.chg (R : Rel g κ O e σ H) {i : Nat} {l l' : List D} {p : Addr} {ws : List V} (hi : e[i]? = some (Ent.ow l)) (hp : σ[i]? = some (some (V.ref p))) (k : ∀ a o, a ≠ p → H a = some o → H' a = some o)
    (hn : H' p = some (.lst ws)) (hz : ws.length ≤ sizeLine) (hd : DatL g (κ.mk' O) H' ws l') : Rel g κ O (e.set i (Ent.ow l')) σ H' ∧ Keep O H H' := by
  obtain ⟨p', vs, h1, h2, h3, h4, h5⟩ := R.ow i l hi
  rw [hp] at h1
  cases h1
  have K : Keep O H H' := fun a o n q => k a o (fun z => n (by rw [z]; exact h2)) q
  have hlt : i < e.length := (List.getElem?_eq_some_iff.mp hi).1
  have hset : ∀ j, j ≠ i → (e.set i (Ent.ow l'))[j]? = e[j]? := fun j hj => List.getElem?_set_ne (Ne.symm hj)
  have hself : (e.set i (Ent.ow l'))[i]? = some (Ent.ow l') := List.getElem?_set_self hlt
  have hown : ∀ (j : Nat) (l2 : List D), (e.set i (Ent.ow l'))[j]? = some (Ent.ow l2) → ∃ l3, e[j]? = some (Ent.ow l3) := fun j l2 h => by
    by_cases hj : j = i
    · subst hj; exact ⟨l, hi⟩
    · rw [hset j hj] at h; exact ⟨l2, h⟩
  refine ⟨⟨fun j d h => ?_, fun j l2 h => ?_, fun j j' l1 l2 q a b c d => ?_, fun q hq => ?_, R.ou, R.fr, fun q hq => ?_, fun q hq => ?_, fun a o q n => ?_, by rw [List.length_set]; exact R.len⟩, K⟩
  · have hj : j ≠ i := fun z => by subst z; rw [hself] at h; cases h
    rw [hset j hj] at h
    obtain ⟨v, a, b⟩ := R.sh j d h
    exact ⟨v, a, K.dat b⟩
  · by_cases hj : j = i
    · subst hj
      rw [hself] at h
      cases h
      exact ⟨p, ws, hp, h2, hn, hz, hd⟩
    · rw [hset j hj] at h
      obtain ⟨q, vs2, a, b, c, d, f⟩ := R.ow j l2 h
      have hne : q ≠ p := fun z => hj (R.inj j i l2 l p h hi (by rw [a, z]) hp)
      exact ⟨q, vs2, a, b, k _ _ hne c, d, K.datL f⟩
  · obtain ⟨l3, a'⟩ := hown j l1 a
    obtain ⟨l4, b'⟩ := hown j' l2 b
    exact R.inj j j' l3 l4 q a' b' c d
  · obtain ⟨j, l2, a, b⟩ := R.oe q hq
    by_cases hj : j = i
    · subst hj; exact ⟨j, l', hself, b⟩
    · exact ⟨j, l2, by rw [hset j hj]; exact a, b⟩
  · obtain ⟨vs2, a⟩ := R.ul q hq
    exact ⟨vs2, k _ _ (fun z => by subst z; exact R.ou _ h2 hq) a⟩
  · obtain ⟨a, l2, b, c⟩ := R.mo q hq
    refine ⟨a, ?_⟩
    by_cases hj : (0 : Nat) = i
    · subst hj; exact ⟨l', hself, c⟩
    · exact ⟨l2, by rw [hset 0 hj]; exact b, c⟩
  · refine k _ _ (fun z => ?_) (R.keep a o q n)
    subst z
    rcases R.fr _ h2 with z | z
    · exact n z
    · rw [q] at z; cases z
/-- a slot that owns nothing gets a value -/
theorem Rel.put (R : Rel g κ O e σ H) {i : Nat} {v : V} {d : D} (hlt : i < e.length) (hno : ∀ l, e[i]? ≠ some (Ent.ow l)) (hd : Dat g (κ.mk' O) H v d) : Rel g κ O (e.set i (Ent.sh d)) (σ.set i (some v)) H := by
  have hσ : i < σ.length := by rw [R.len]; exact hlt
  have hset : ∀ j, j ≠ i → (e.set i (Ent.sh d))[j]? = e[j]? := fun j hj => List.getElem?_set_ne (Ne.symm hj)
  have hself : (e.set i (Ent.sh d))[i]? = some (Ent.sh d) := List.getElem?_set_self hlt
  have hsσ : ∀ j, j ≠ i → (σ.set i (some v))[j]? = σ[j]? := fun j hj => List.getElem?_set_ne (Ne.symm hj)
  have hno' : ∀ (j : Nat) (l : List D), (e.set i (Ent.sh d))[j]? = some (Ent.ow l) → j ≠ i ∧ e[j]? = some (Ent.ow l) := fun j l h => by
    by_cases hj : j = i
    · subst hj; rw [hself] at h; cases h
    · rw [hset j hj] at h; exact ⟨hj, h⟩
  have hne : ∀ (j : Nat) (l : List D), e[j]? = some (Ent.ow l) → j ≠ i := fun j l h z => by subst z; exact hno l h
  refine ⟨fun j d' h => ?_, fun j l h => ?_, fun j j' l1 l2 q a b c f => ?_, fun q hq => ?_, R.ou, R.fr, R.ul, fun q hq => ?_, R.keep, by rw [List.length_set, List.length_set]; exact R.len⟩
  · by_cases hj : j = i
    · subst hj
      rw [hself] at h
      cases h
      exact ⟨v, List.getElem?_set_self hσ, hd⟩
    · rw [hset j hj] at h
      obtain ⟨w, a, b⟩ := R.sh j d' h
      exact ⟨w, by rw [hsσ j hj]; exact a, b⟩
  · obtain ⟨hj, h'⟩ := hno' j l h
    obtain ⟨p, vs, a, b⟩ := R.ow j l h'
    exact ⟨p, vs, by rw [hsσ j hj]; exact a, b⟩
  · obtain ⟨n1, a'⟩ := hno' j l1 a
    obtain ⟨n2, b'⟩ := hno' j' l2 b
    rw [hsσ j n1] at c
    rw [hsσ j' n2] at f
    exact R.inj j j' l1 l2 q a' b' c f
  · obtain ⟨j, l, a, b⟩ := R.oe q hq
    have hj := hne j l a
    exact ⟨j, l, by rw [hset j hj]; exact a, by rw [hsσ j hj]; exact b⟩
  · obtain ⟨a, l, b, c⟩ := R.mo q hq
    have hj := hne 0 l b
    exact ⟨a, l, by rw [hset 0 hj]; exact b, by rw [hsσ 0 hj]; exact c⟩
/-- a slot that owned a list drops it -/
theorem Rel.drop (R : Rel g κ O e σ H) {i : Nat} {l : List D} (h0 : i ≠ 0) (hi : e[i]? = some (Ent.ow l)) (u : Ent) (hu : u = .un ∨ u = .sh (.lst l)) : ∃ O', Rel g κ O' (e.set i u) σ H ∧ (∀ a, O' a → O a) := by
  obtain ⟨p, vs, h1, h2, h3, h4, h5⟩ := R.ow i l hi
  have hlt : i < e.length := (List.getElem?_eq_some_iff.mp hi).1
  have hset : ∀ j, j ≠ i → (e.set i u)[j]? = e[j]? := fun j hj => List.getElem?_set_ne (Ne.symm hj)
  have hself : (e.set i u)[i]? = some u := List.getElem?_set_self hlt
  have hnow : ∀ l, u ≠ .ow l := fun l z => by rcases hu with q | q <;> (rw [q] at z; cases z)
  have hno' : ∀ (j : Nat) (l : List D), (e.set i u)[j]? = some (Ent.ow l) → j ≠ i ∧ e[j]? = some (Ent.ow l) := fun j l h => by
    by_cases hj : j = i
    · subst hj; rw [hself] at h; exact absurd (Option.some.inj h) (hnow l)
    · rw [hset j hj] at h; exact ⟨hj, h⟩
  have mm : ∀ a, κ.mk' (fun a => O a ∧ a ≠ p) a → κ.mk' O a := fun a z => z.elim .inl fun z => .inr z.1
  have wk : ∀ {v : V} {d : D}, Dat g (κ.mk' O) H v d → Dat g (κ.mk' fun a => O a ∧ a ≠ p) H v d := fun h => h.mono (fun _ _ _ q => q) fun a _ z _ => mm a z
  have wkL : ∀ {v : List V} {d : List D}, DatL g (κ.mk' O) H v d → DatL g (κ.mk' fun a => O a ∧ a ≠ p) H v d := fun h => h.mono (fun _ _ _ q => q) fun a _ z _ => mm a z
  refine ⟨fun a => O a ∧ a ≠ p, ⟨fun j d h => ?_, fun j l' h => ?_, fun j j' l1 l2 q a b c f => ?_, fun q hq => ?_, fun q hq => R.ou q hq.1, fun q hq => R.fr q hq.1, R.ul, fun q hq => ?_, R.keep, by rw [List.length_set]; exact R.len⟩, fun a z => z.1⟩
  · by_cases hj : j = i
    · subst hj
      rw [hself] at h
      have h' : u = .sh d := Option.some.inj h
      rcases hu with z | z
      · rw [z] at h'; cases h'
      · rw [z] at h'
        cases h'
        exact ⟨.ref p, h1, .lst h3 (fun z => z.elim (R.ou p h2) fun z => z.2 rfl) h4 (wkL h5)⟩
    · rw [hset j hj] at h
      obtain ⟨w, a, b⟩ := R.sh j d h
      exact ⟨w, a, wk b⟩
  · obtain ⟨hj, h'⟩ := hno' j l' h
    obtain ⟨q, ws, a, b, c, d, f⟩ := R.ow j l' h'
    exact ⟨q, ws, a, ⟨b, fun z => hj (R.inj j i l' l p h' hi (by rw [a, z]) h1)⟩, c, d, wkL f⟩
  · obtain ⟨n1, a'⟩ := hno' j l1 a
    obtain ⟨n2, b'⟩ := hno' j' l2 b
    exact R.inj j j' l1 l2 q a' b' c f
  · obtain ⟨j, l', a, b⟩ := R.oe q hq.1
    have hj : j ≠ i := fun z => by
      subst z
      rw [h1] at b
      cases b
      exact hq.2 rfl
    exact ⟨j, l', by rw [hset j hj]; exact a, b⟩
  · obtain ⟨a, l', b, c⟩ := R.mo q hq
    refine ⟨⟨a, fun z => ?_⟩, l', by rw [hset 0 (Ne.symm h0)]; exact b, c⟩
    subst z
    exact h0 (R.inj i 0 l l' q hi b h1 c)
/-- a slot that owns nothing gets a new list -/
theorem Rel.own (R : Rel g κ O e σ H) {i : Nat} {p : Addr} {vs : List V} {l : List D} (hlt : i < e.length) (hno : ∀ l, e[i]? ≠ some (Ent.ow l)) (hp : H p = some (.lst vs)) (hz : vs.length ≤ sizeLine) (h0 : κ.H0 p = none) (hU : ¬ κ.mk' O p)
    (hsh : ∀ (j : Nat) (d : D), j ≠ i → e[j]? = some (Ent.sh d) → ∃ v, σ[j]? = some (some v) ∧ Dat g (κ.mk' fun a => O a ∨ a = p) H v d)
    (how : ∀ (j : Nat) (l : List D), e[j]? = some (Ent.ow l) → ∃ q ws, σ[j]? = some (some (V.ref q)) ∧ H q = some (.lst ws) ∧ DatL g (κ.mk' fun a => O a ∨ a = p) H ws l)
    (hd : DatL g (κ.mk' fun a => O a ∨ a = p) H vs l) : Rel g κ (fun a => O a ∨ a = p) (e.set i (Ent.ow l)) (σ.set i (some (V.ref p))) H := by
  have hσ : i < σ.length := by rw [R.len]; exact hlt
  have hset : ∀ j, j ≠ i → (e.set i (Ent.ow l))[j]? = e[j]? := fun j hj => List.getElem?_set_ne (Ne.symm hj)
  have hself : (e.set i (Ent.ow l))[i]? = some (Ent.ow l) := List.getElem?_set_self hlt
  have hsσ : ∀ j, j ≠ i → (σ.set i (some (V.ref p)))[j]? = σ[j]? := fun j hj => List.getElem?_set_ne (Ne.symm hj)
  have hsσi : (σ.set i (some (V.ref p)))[i]? = some (some (V.ref p)) := List.getElem?_set_self hσ
  have hne : ∀ (j : Nat) (l : List D), e[j]? = some (Ent.ow l) → j ≠ i := fun j l h z => by subst z; exact hno l h
  have notp : ∀ j l', e[j]? = some (Ent.ow l') → σ[j]? = some (some (V.ref p)) → False := fun j l' h1 h2 => by
    obtain ⟨q, _, a, b, _⟩ := R.ow j l' h1
    rw [h2] at a
    cases a
    exact hU (.inr b)
  refine ⟨fun j d h => ?_, fun j l' h => ?_, fun j j' l1 l2 q a b c f => ?_, fun q hq => ?_, fun q hq => ?_, fun q hq => ?_, R.ul, fun q hq => ?_, R.keep, by rw [List.length_set, List.length_set]; exact R.len⟩
  · have hj : j ≠ i := fun z => by subst z; rw [hself] at h; cases h
    rw [hset j hj] at h
    obtain ⟨v, a, b⟩ := hsh j d hj h
    exact ⟨v, by rw [hsσ j hj]; exact a, b⟩
  · by_cases hj : j = i
    · subst hj
      rw [hself] at h
      cases h
      exact ⟨p, vs, hsσi, .inr rfl, hp, hz, hd⟩
    · rw [hset j hj] at h
      obtain ⟨q, ws, a, b, c, z, _⟩ := R.ow j l' h
      obtain ⟨q', ws', a', c', f⟩ := how j l' h
      rw [a] at a'
      cases a'
      rw [c] at c'
      cases c'
      exact ⟨q, ws, by rw [hsσ j hj]; exact a, .inl b, c, z, f⟩
  · by_cases hj : j = i
    · by_cases hj' : j' = i
      · rw [hj, hj']
      · subst hj
        rw [hsσi] at c
        cases c
        rw [hset j' hj'] at b
        rw [hsσ j' hj'] at f
        exact (notp j' l2 b f).elim
    · rw [hset j hj] at a
      rw [hsσ j hj] at c
      by_cases hj' : j' = i
      · subst hj'
        rw [hsσi] at f
        cases f
        exact (notp j l1 a c).elim
      · rw [hset j' hj'] at b
        rw [hsσ j' hj'] at f
        exact R.inj j j' l1 l2 q a b c f
  · rcases hq with hq | hq
    · obtain ⟨j, l', a, b⟩ := R.oe q hq
      have hj := hne j l' a
      exact ⟨j, l', by rw [hset j hj]; exact a, by rw [hsσ j hj]; exact b⟩
    · subst hq
      exact ⟨i, l, hself, hsσi⟩
  · rcases hq with hq | hq
    · exact R.ou q hq
    · subst hq; exact fun z => hU (.inl z)
  · rcases hq with hq | hq
    · exact R.fr q hq
    · subst hq; exact .inr h0
  · obtain ⟨a, l', b, c⟩ := R.mo q hq
    have hj := hne 0 l' b
    exact ⟨.inl a, l', by rw [hset 0 hj]; exact b, by rw [hsσ 0 hj]; exact c⟩
/-- slots that own nothing are forgotten (a comprehension's own names) -/
theorem Rel.wipe (R : Rel g κ O e σ H) : ∀ {vs : List Nat}, noOw e vs = true → Rel g κ O (wipeE e vs) (L2.wipe σ vs) H
  | [], _ => R
  | v :: vs, h => by
    have h' : ((match e[v]? with
      | some (Ent.ow _) => false
      | some _ => true
      | none => false) && noOw e vs) = true := h
    rw [Bool.and_eq_true] at h'
    have R' := Rel.wipe R h'.2
    have hv : v < e.length ∧ ∀ l, e[v]? ≠ some (Ent.ow l) := by
      cases q : e[v]? with
      | none => rw [q] at h'; cases h'.1
      | some u =>
        refine ⟨(List.getElem?_eq_some_iff.mp q).1, fun l z => ?_⟩
        cases z
        rw [q] at h'
        cases h'.1
    have hnow : ∀ (vs : List Nat) (l : List D), (wipeE e vs)[v]? ≠ some (Ent.ow l) := by
      intro vs
      induction vs with
      | nil => exact hv.2
      | cons w ws ih =>
        intro l
        show ((wipeE e ws).set w .un)[v]? ≠ _
        by_cases hw : w = v
        · subst hw
          by_cases hl : w < (wipeE e ws).length
          · rw [List.getElem?_set_self hl]; exact fun z => by cases z
          · rw [List.getElem?_eq_none (by simpa using hl)]; exact fun z => by cases z
        · rw [List.getElem?_set_ne hw]; exact ih l
    have hlen : ∀ vs, (wipeE e vs).length = e.length := by
      intro vs
      induction vs with
      | nil => rfl
      | cons w ws ih => show ((wipeE e ws).set w .un).length = _; rw [List.length_set, ih]
    have hlt : v < (wipeE e vs).length := by rw [hlen]; exact hv.1
    show Rel g κ O ((wipeE e vs).set v .un) ((L2.wipe σ vs).set v none) H
    have hset : ∀ j, j ≠ v → ((wipeE e vs).set v .un)[j]? = (wipeE e vs)[j]? := fun j hj => List.getElem?_set_ne (Ne.symm hj)
    have hself : ((wipeE e vs).set v .un)[v]? = some Ent.un := List.getElem?_set_self hlt
    have hsσ : ∀ j, j ≠ v → ((L2.wipe σ vs).set v none)[j]? = (L2.wipe σ vs)[j]? := fun j hj => List.getElem?_set_ne (Ne.symm hj)
    have hne : ∀ (j : Nat) (l : List D), (wipeE e vs)[j]? = some (Ent.ow l) → j ≠ v := fun j l q z => by subst z; exact hnow vs l q
    refine ⟨fun j d q => ?_, fun j l q => ?_, fun j j' l1 l2 q a b c f => ?_, fun q hq => ?_, R'.ou, R'.fr, R'.ul, fun q hq => ?_, R'.keep, by rw [List.length_set, List.length_set]; exact R'.len⟩
    · have hj : j ≠ v := fun z => by subst z; rw [hself] at q; cases q
      rw [hset j hj] at q
      rw [hsσ j hj]
      exact R'.sh j d q
    · have hj : j ≠ v := fun z => by subst z; rw [hself] at q; cases q
      rw [hset j hj] at q
      rw [hsσ j hj]
      exact R'.ow j l q
    · have hj : j ≠ v := fun z => by subst z; rw [hself] at a; cases a
      have hj' : j' ≠ v := fun z => by subst z; rw [hself] at b; cases b
      rw [hset j hj] at a
      rw [hset j' hj'] at b
      rw [hsσ j hj] at c
      rw [hsσ j' hj'] at f
      exact R'.inj j j' l1 l2 q a b c f
    · obtain ⟨j, l, a, b⟩ := R'.oe q hq
      have hj := hne j l a
      exact ⟨j, l, by rw [hset j hj]; exact a, by rw [hsσ j hj]; exact b⟩
    · obtain ⟨a, l, b, c⟩ := R'.mo q hq
      have hj := hne 0 l b
      exact ⟨a, l, by rw [hset 0 hj]; exact b, by rw [hsσ 0 hj]; exact c⟩
theorem wipeE_len (e : Sl) : ∀ vs, (wipeE e vs).length = e.length
  | [] => rfl
  | v :: vs => by show ((wipeE e vs).set v .un).length = _; rw [List.length_set, wipeE_len e vs]
theorem backE_len (e0 e : Sl) : ∀ vs, (backE e0 e vs).length = e.length
  | [] => rfl
  | v :: vs => by show ((backE e0 e vs).set v _).length = _; rw [List.length_set, backE_len e0 e vs]
theorem backE_out (e0 e : Sl) {j : Nat} : ∀ {vs}, j ∉ vs → (backE e0 e vs)[j]? = e[j]?
  | [], _ => rfl
  | v :: vs, h => by
    show ((backE e0 e vs).set v _)[j]? = _
    rw [List.getElem?_set_ne (fun z => h (by rw [z]; exact List.mem_cons_self))]
    exact backE_out e0 e fun z => h (List.mem_cons_of_mem _ z)
theorem backE_in (e0 e : Sl) {j : Nat} (hj : j < e.length) : ∀ {vs}, j ∈ vs → (backE e0 e vs)[j]? = some (e0.getD j .un)
  | [], h => by cases h
  | v :: vs, h => by
    show ((backE e0 e vs).set v _)[j]? = _
    by_cases hv : v = j
    · subst hv; rw [List.getElem?_set_self (by rw [backE_len]; exact hj)]
    · rw [List.getElem?_set_ne hv]
      rcases List.mem_cons.mp h with z | z
      · exact absurd z.symm hv
      · exact backE_in e0 e hj z
theorem noOw_at {e : Sl} {vs : List Nat} (h : noOw e vs = true) {j : Nat} (hj : j ∈ vs) : j < e.length ∧ ∀ l, e[j]? ≠ some (Ent.ow l) := by
  have q := List.all_eq_true.mp h j hj
  cases z : e[j]? with
  | none => rw [z] at q; cases q
  | some u =>
    refine ⟨(List.getElem?_eq_some_iff.mp z).1, fun l y => ?_⟩
    cases y
    rw [z] at q
    cases q
theorem wipe_out' {σ : L2.St} {j : Nat} : ∀ {vs : List Nat}, j ∉ vs → (L2.wipe σ vs)[j]? = σ[j]?
  | [], _ => rfl
  | v :: vs, h => by
    show ((L2.wipe σ vs).set v none)[j]? = _
    rw [List.getElem?_set_ne (fun z => h (by rw [z]; exact List.mem_cons_self))]
    exact wipe_out' fun z => h (List.mem_cons_of_mem _ z)
/-- behind a comprehension: the block's slots as they were, the others as the block left them -/
theorem Rel.back {e1 e2 : Sl} {σ2 : L2.St} {vs : List Nat} (R : Rel g κ O e1 σ H) (R2 : Rel g κ O e2 σ2 H') (K : ∀ a o, ¬ κ.mk' O a → H a = some o → H' a = some o) (hno : noOw e1 vs = true) (hw : L2.wipe σ2 vs = L2.wipe σ vs)
    (hno2 : ∀ j ∈ vs, ∀ l, e2[j]? ≠ some (Ent.ow l)) : Rel g κ O (backE e1 e2 vs) σ H' := by
  have hl : σ2.length = σ.length := by
    have := congrArg List.length hw
    rw [L2.wipe_length, L2.wipe_length] at this
    exact this
  have hle : e2.length = e1.length := by rw [← R.len, ← R2.len, hl]
  have hout : ∀ j, j ∉ vs → σ2[j]? = σ[j]? := fun j hj => by rw [← wipe_out' hj, hw, wipe_out' hj]
  have own : ∀ (j : Nat) (l : List D), (backE e1 e2 vs)[j]? = some (Ent.ow l) → j ∉ vs ∧ e2[j]? = some (Ent.ow l) := fun j l h => by
    by_cases hj : j ∈ vs
    · obtain ⟨h1, h2⟩ := noOw_at hno hj
      rw [backE_in e1 e2 (by rw [hle]; exact h1) hj] at h
      have h3 : e1.getD j .un = .ow l := Option.some.inj h
      rw [List.getD_eq_getElem?_getD, List.getElem?_eq_getElem h1] at h3
      exact absurd (by rw [List.getElem?_eq_getElem h1]; exact congrArg some h3) (h2 l)
    · rw [backE_out e1 e2 hj] at h
      exact ⟨hj, h⟩
  have keepO : ∀ (j : Nat) (l : List D), e2[j]? = some (Ent.ow l) → j ∉ vs := fun j l h hj => hno2 j hj l h
  refine ⟨fun j d h => ?_, fun j l h => ?_, fun j j' l1 l2 q a b c f => ?_, fun q hq => ?_, R2.ou, R2.fr, R2.ul, fun q hq => ?_, R2.keep, by rw [backE_len, hle]; exact R.len⟩
  · by_cases hj : j ∈ vs
    · obtain ⟨h1, h2⟩ := noOw_at hno hj
      rw [backE_in e1 e2 (by rw [hle]; exact h1) hj] at h
      have h3 : e1.getD j .un = .sh d := Option.some.inj h
      rw [List.getD_eq_getElem?_getD, List.getElem?_eq_getElem h1] at h3
      obtain ⟨v, a, b⟩ := R.sh j d (by rw [List.getElem?_eq_getElem h1]; exact congrArg some h3)
      exact ⟨v, a, b.mono K fun _ _ z _ => z⟩
    · rw [backE_out e1 e2 hj] at h
      obtain ⟨v, a, b⟩ := R2.sh j d h
      exact ⟨v, by rw [← hout j hj]; exact a, b⟩
  · obtain ⟨hj, h'⟩ := own j l h
    obtain ⟨p, ws, a, b⟩ := R2.ow j l h'
    exact ⟨p, ws, by rw [← hout j hj]; exact a, b⟩
  · obtain ⟨n1, a'⟩ := own j l1 a
    obtain ⟨n2, b'⟩ := own j' l2 b
    rw [← hout j n1] at c
    rw [← hout j' n2] at f
    exact R2.inj j j' l1 l2 q a' b' c f
  · obtain ⟨j, l, a, b⟩ := R2.oe q hq
    have hj := keepO j l a
    exact ⟨j, l, by rw [backE_out e1 e2 hj]; exact a, by rw [← hout j hj]; exact b⟩
  · obtain ⟨a, l, b, c⟩ := R2.mo q hq
    have hj := keepO 0 l b
    exact ⟨a, l, by rw [backE_out e1 e2 hj]; exact b, by rw [← hout 0 hj]; exact c⟩
/-- a slot that owns nothing is forgotten -/
theorem Rel.forget (R : Rel g κ O e σ H) {i : Nat} (hlt : i < e.length) (hno : ∀ l, e[i]? ≠ some (Ent.ow l)) : Rel g κ O (e.set i .un) σ H := by
  have hset : ∀ j, j ≠ i → (e.set i Ent.un)[j]? = e[j]? := fun j hj => List.getElem?_set_ne (Ne.symm hj)
  have hself : (e.set i Ent.un)[i]? = some Ent.un := List.getElem?_set_self hlt
  have hno' : ∀ (j : Nat) (l : List D), (e.set i Ent.un)[j]? = some (Ent.ow l) → j ≠ i ∧ e[j]? = some (Ent.ow l) := fun j l h => by
    by_cases hj : j = i
    · subst hj; rw [hself] at h; cases h
    · rw [hset j hj] at h; exact ⟨hj, h⟩
  have hne : ∀ (j : Nat) (l : List D), e[j]? = some (Ent.ow l) → j ≠ i := fun j l h z => by subst z; exact hno l h
  refine ⟨fun j d h => ?_, fun j l h => R.ow j l (hno' j l h).2, fun j j' l1 l2 q a b c d => R.inj j j' l1 l2 q (hno' j l1 a).2 (hno' j' l2 b).2 c d, fun q hq => ?_, R.ou, R.fr, R.ul, fun q hq => ?_, R.keep, by rw [List.length_set]; exact R.len⟩
  · by_cases hj : j = i
    · subst hj; rw [hself] at h; cases h
    · rw [hset j hj] at h; exact R.sh j d h
  · obtain ⟨j, l, a, b⟩ := R.oe q hq
    exact ⟨j, l, by rw [hset j (hne j l a)]; exact a, b⟩
  · obtain ⟨a, l, b, c⟩ := R.mo q hq
    exact ⟨a, l, by rw [hset 0 (hne 0 l b)]; exact b, c⟩
/-- .. where the callers own a further list, which no slot knows -/
abbrev Kp.hid (κ : Kp) (D : Addr) : Kp := { κ with U := fun a => κ.U a ∨ a = D }
theorem Rel.hideG {D : Addr} {xs : List V} (R : Rel g κ O e σ H) (hD : H D = none) (k : ∀ a o, H a = some o → H' a = some o) (hn : H' D = some (.lst xs)) : Rel g (κ.hid D) O e σ H' := by
  have ne : ∀ {a : Addr} {o : HO}, H a = some o → a ≠ D := fun h z => by rw [z, hD] at h; cases h
  have mm : ∀ a o, (κ.hid D).mk' O a → H a = some o → κ.mk' O a := fun a o z q => by
    rcases z with (z | z) | z
    · exact .inl z
    · exact absurd z (ne q)
    · exact .inr z
  have R' := R.grow k
  refine ⟨fun i d h => ?_, fun i l h => ?_, R.inj, R.oe, fun p hp z => ?_, R.fr, fun p hp => ?_, R.mo, R'.keep, R.len⟩
  · obtain ⟨v, a, b⟩ := R.sh i d h
    exact ⟨v, a, b.mono (fun a o _ q => k a o q) mm⟩
  · obtain ⟨p, vs, a, b, c, f, q⟩ := R.ow i l h
    exact ⟨p, vs, a, b, k _ _ c, f, q.mono (fun a o _ q => k a o q) mm⟩
  · rcases z with z | z
    · exact R.ou p hp z
    · obtain ⟨vs, q⟩ := R.owned hp
      exact ne q z
  · rcases hp with z | z
    · obtain ⟨vs, q⟩ := R.ul p z
      exact ⟨vs, k _ _ q⟩
    · rw [z]; exact ⟨xs, hn⟩
theorem Rel.hide {D : Addr} (R : Rel g κ O e σ H) (hD : H D = none) {xs : List V} : Rel g (κ.hid D) O e σ (upd H D (.lst xs)) :=
  R.hideG hD (fun a o h => by rw [upd_ne (ne_of_none h hD)]; exact h) upd_same
end
end Pv

namespace Pv
open PySem PySem.Spec PyProof.Rows L2

/-! ## 5. a reading by the plain meaning -/
def Pay (k : Nat) (p : Option D) (dx : Option Addr) (H : Hp) : Prop := match p with
  | none => dx = none
  | some (.int i) => ∃ a, dx = some a ∧ H a = some (.xd [("line", .int i)])
  | _ => False
def Run {α : Type} (g : Gm) (κ : Kp) (O : Addr → Prop) (W : WX) (σ : L2.St) (H : Hp) (r : R α) (k : α → Sl → Prop) : Prop := match r with
  | .ok a e => k a e
  | .ex c p e => ∀ dx H', Rel g κ O e σ H' → Keep O H H' → Pay c p dx H' → W (.ref (g.ca c)) dx σ H'
  | .bad => False
section
variable {α β : Type} {g : Gm} {κ : Kp} {O : Addr → Prop} {W : WX} {σ : L2.St} {H : Hp}
theorem Run.imp {r : R α} {k k' : α → Sl → Prop} (h : Run g κ O W σ H r k) (i : ∀ a e, r = .ok a e → k a e → k' a e) : Run g κ O W σ H r k' := by
  cases r with
  | ok a e => exact i a e rfl h
  | ex c p e => exact h
  | bad => exact h
theorem Run.bind {r : R α} {f : α → Sl → R β} {k : β → Sl → Prop} (h : Run g κ O W σ H (r.bind f) k) : Run g κ O W σ H r fun a e => ∀ H1, Keep O H H1 → Run g κ O W σ H1 (f a e) k := by
  cases r with
  | bad => exact h
  | ex c p e => exact h
  | ok a e =>
    intro H1 K1
    have h' : Run g κ O W σ H (f a e) k := h
    cases q : f a e with
    | ok b e1 => rw [q] at h'; exact h'
    | bad => rw [q] at h'; exact h'
    | ex c p e1 => rw [q] at h'; exact fun dx H' R K P => h' dx H' R (K1.trans K) P
theorem Run.opt {o : Option α} {e : Sl} {k : α → Sl → Prop} (h : Run g κ O W σ H (opt o e) k) : ∃ a, o = some a ∧ k a e := by
  cases o with
  | none => exact h.elim
  | some a => exact ⟨a, rfl, h⟩
theorem Run.optB {o : Option α} {e : Sl} {f : α → Sl → R β} {k : β → Sl → Prop} (h : Run g κ O W σ H ((Pv.opt o e).bind f) k) : ∃ a, o = some a ∧ Run g κ O W σ H (f a e) k := by
  cases o with
  | none => exact h.elim
  | some a => exact ⟨a, rfl, h⟩
theorem Run.ite {c : Prop} [Decidable c] {r : R α} {k : α → Sl → Prop} (h : Run g κ O W σ H (if c then r else .bad) k) : c ∧ Run g κ O W σ H r k := by
  by_cases hc : c
  · rw [if_pos hc] at h; exact ⟨hc, h⟩
  · rw [if_neg hc] at h; exact h.elim
theorem Run.iteN {c : Prop} [Decidable c] {r : R α} {k : α → Sl → Prop} (h : Run g κ O W σ H (if c then .bad else r) k) : ¬ c ∧ Run g κ O W σ H r k := by
  by_cases hc : c
  · rw [if_pos hc] at h; exact h.elim
  · rw [if_neg hc] at h; exact ⟨hc, h⟩
end
/-- a result: data that nobody owns; where fl says so, a list is a new one -/
structure Got (g : Gm) (m : Addr → Prop) (H H' : Hp) (v : V) (d : D) (fl : Bool) : Prop where
  dat : Dat g m H' v d
  new : fl = true → ∀ l, d = .lst l → ∃ p vs, v = .ref p ∧ H p = none ∧ H' p = some (.lst vs) ∧ vs.length ≤ sizeLine ∧ DatL g (fun a => m a ∨ a = p) H' vs l
theorem Got.weak {g : Gm} {m : Addr → Prop} {H H' : Hp} {v : V} {d : D} {fl : Bool} (h : Got g m H H' v d fl) : Got g m H H' v d false := ⟨h.dat, fun z => by cases z⟩
theorem Got.flag {g : Gm} {m : Addr → Prop} {H H' : Hp} {v : V} {d : D} (h : Dat g m H' v d) (n : ∀ l, d ≠ .lst l) (fl : Bool) : Got g m H H' v d fl := ⟨h, fun _ l e => absurd e (n l)⟩
theorem new_back {O : Addr → Prop} {H H1 : Hp} {p : Addr} (K : Keep O H H1) (ho : ∀ p, O p → H1 p ≠ none) (b : H1 p = none) : H p = none := by
  cases q : H p with
  | none => rfl
  | some o =>
    by_cases hp : O p
    · exact absurd b (ho p hp)
    · rw [K p o hp q] at b; cases b
theorem Got.back {g : Gm} {m O : Addr → Prop} {H H1 H' : Hp} {v : V} {d : D} {fl : Bool} (h : Got g m H1 H' v d fl) (K : Keep O H H1) (ho : ∀ p, O p → H1 p ≠ none) : Got g m H H' v d fl :=
  ⟨h.dat, fun f l e => let ⟨p, vs, a, b, c⟩ := h.new f l e; ⟨p, vs, a, new_back K ho b, c⟩⟩
structure GotX (g : Gm) (κ : Kp) (O : Addr → Prop) (e : Sl) (σ : L2.St) (H H' : Hp) (v : V) (d : D) (fl : Bool) : Prop where
  dat : Dat g (κ.mk' O) H' v d
  new : fl = true → ∀ l, d = .lst l → ∃ p vs, v = .ref p ∧ H p = none ∧ H' p = some (.lst vs) ∧ vs.length ≤ sizeLine ∧ DatL g (fun a => κ.mk' O a ∨ a = p) H' vs l ∧ Rel g (κ.hid p) O e σ H'
section
variable {g : Gm} {κ : Kp} {O : Addr → Prop} {e : Sl} {σ : L2.St} {H H1 H' : Hp} {v : V} {d : D} {fl : Bool}
theorem GotX.flag (h : Dat g (κ.mk' O) H' v d) (n : ∀ l, d ≠ .lst l) (fl : Bool) : GotX g κ O e σ H H' v d fl := ⟨h, fun _ l e => absurd e (n l)⟩
theorem GotX.back (h : GotX g κ O e σ H1 H' v d fl) (K : Keep O H H1) (ho : ∀ p, O p → H1 p ≠ none) : GotX g κ O e σ H H' v d fl :=
  ⟨h.dat, fun f l e => let ⟨p, vs, a, b, c⟩ := h.new f l e; ⟨p, vs, a, new_back K ho b, c⟩⟩
theorem Got.toX (h : Got g (κ.mk' O) H H' v d fl) (R : Rel g κ O e σ H) (k : ∀ a o, H a = some o → H' a = some o) : GotX g κ O e σ H H' v d fl :=
  ⟨h.dat, fun f l e => let ⟨p, vs, a, b, c, z, q⟩ := h.new f l e; ⟨p, vs, a, b, c, z, q, R.hideG b k c⟩⟩
end
/-- read where it is used: data that nobody owns, or a list of one's own -/
def DatW (g : Gm) (m : Addr → Prop) (H : Hp) (v : V) (d : D) : Prop := Dat g m H v d ∨ ∃ p vs l, v = .ref p ∧ d = .lst l ∧ H p = some (.lst vs) ∧ vs.length ≤ sizeLine ∧ DatL g m H vs l
def VrOk (g : Gm) (κ : Kp) (O : Addr → Prop) (σ : L2.St) (H : Hp) (v : V) : Vr → Prop
  | .inl d => Dat g (κ.mk' O) H v d
  | .inr i => σ[i]? = some (some v)
inductive VrsOk (g : Gm) (κ : Kp) (O : Addr → Prop) (σ : L2.St) (H : Hp) : List V → List Vr → Prop
  | nil : VrsOk g κ O σ H [] []
  | cons {v : V} {vs : List V} {x : Vr} {xs : List Vr} : VrOk g κ O σ H v x → VrsOk g κ O σ H vs xs → VrsOk g κ O σ H (v :: vs) (x :: xs)
section
variable {g : Gm} {κ : Kp} {O : Addr → Prop} {W : WX} {σ : L2.St} {H H' : Hp} {e : Sl}
theorem VrOk.keep {v : V} {x : Vr} (K : Keep O H H') (h : VrOk g κ O σ H v x) : VrOk g κ O σ H' v x := by
  cases x with
  | inl d => exact K.dat h
  | inr i => exact h
theorem VrOk.get (R : Rel g κ O e σ H) {v : V} {x : Vr} {d : D} (h : VrOk g κ O σ H v x) (q : vget e x = some d) : DatW g (κ.mk' O) H v d ∧ (isOw e x = false → Dat g (κ.mk' O) H v d) := by
  cases x with
  | inl d' =>
    have q' : some d' = some d := q
    cases q'
    exact ⟨.inl h, fun _ => h⟩
  | inr i =>
    have h' : σ[i]? = some (some v) := h
    cases z : e[i]? with
    | none => simp [vget, z] at q
    | some u =>
      cases u with
      | un => simp [vget, z] at q
      | sh d' =>
        have q' : d' = d := by simpa [vget, z] using q
        subst q'
        obtain ⟨w, a, b⟩ := R.sh i d' z
        rw [h'] at a
        cases a
        exact ⟨.inl b, fun _ => b⟩
      | ow l =>
        have q' : D.lst l = d := by simpa [vget, z] using q
        subst q'
        obtain ⟨p, vs, a, b, c, f, k⟩ := R.ow i l z
        rw [h'] at a
        cases a
        exact ⟨.inr ⟨p, vs, l, rfl, rfl, c, f, k⟩, fun w => by simp [isOw, z] at w⟩
theorem DatW.lst {m : Addr → Prop} {v : V} {l : List D} (h : DatW g m H v (.lst l)) : ∃ p vs, v = .ref p ∧ H p = some (.lst vs) ∧ vs.length ≤ sizeLine ∧ DatL g m H vs l := by
  rcases h with h | ⟨p, vs, l', a, b, c⟩
  · cases h with
    | lst a b c d => exact ⟨_, _, rfl, a, c, d⟩
  · cases b
    exact ⟨p, vs, a, c⟩
theorem DatW.dat {m : Addr → Prop} {v : V} {d : D} (h : DatW g m H v d) (n : ∀ l, d ≠ .lst l) : Dat g m H v d := by
  rcases h with h | ⟨p, vs, l', a, b, c⟩
  · exact h
  · exact absurd b (n l')
theorem DatW.tup {m : Addr → Prop} {v : V} {l : List D} (h : DatW g m H v (.tup l)) : ∃ p vs, v = .ref p ∧ H p = some (.tup vs) ∧ vs.length ≤ sizeLine ∧ DatL g m H vs l := by
  have h' := h.dat fun l q => by cases q
  cases h' with
  | tup a b c d => exact ⟨_, _, rfl, a, c, d⟩
theorem DatW.int {m : Addr → Prop} {v : V} {i : Int} (h : DatW g m H v (.int i)) : v = .int i := by
  have h' := h.dat fun l q => by cases q
  cases h'; rfl
theorem DatW.bl {m : Addr → Prop} {v : V} {i : Bool} (h : DatW g m H v (.bl i)) : v = .bl i := by
  have h' := h.dat fun l q => by cases q
  cases h'; rfl
theorem DatW.str {m : Addr → Prop} {v : V} {i : Str} (h : DatW g m H v (.str i)) : v = .str i ∧ i.length ≤ sizeLine := by
  have h' := h.dat fun l q => by cases q
  cases h' with
  | str x q => exact ⟨rfl, q⟩
theorem DatW.scr {m : Addr → Prop} {v : V} {l : List Int} (h : DatW g m H v (.scr l)) : ∃ p, v = .ref p ∧ SqL g.K H p (l.map V.int) := by
  have h' := h.dat fun l q => by cases q
  cases h' with
  | scrF a b => exact ⟨_, rfl, .inl (.inr ⟨_, a⟩)⟩
  | scrK a => exact ⟨_, rfl, .inr a⟩
theorem DatW.dp {m : Addr → Prop} {v : V} {d : D} (h : DatW g m H v d) (p : plain d = true) : Dp g.K H v (toPy d) := by
  rcases h with h | ⟨p', vs, l, a, b, c, z, t⟩
  · exact h.dp p
  · subst a b
    exact .lst (SqL.of c) (DatL.dp p t)
end
section
variable (Φ : Orc) (g : Gm) (W : WX)
/-- what an expression c asks: its meaning at slots that the heap bears, and what follows -/
def tEv (c : C) : TE := fun σ H Q => ∃ κ O e, Rel g κ O e σ H ∧ Run g κ O W σ H (ev Φ c e) fun d e' => ∀ v H', Rel g κ O e' σ H' → Keep O H H' → GotX g κ O e' σ H H' v d (isF c) → Q v H'
def tTs (c : C) : TT := fun σ H Q => ∃ κ O e, Rel g κ O e σ H ∧ Run g κ O W σ H ((ev Φ c e).bind fun d e1 => opt (truth d) e1) fun b e' => ∀ H', Rel g κ O e' σ H' → Keep O H H' → Q b H'
def tTt (c : Tt) : TT := fun σ H Q => ∃ κ O e, Rel g κ O e σ H ∧ Run g κ O W σ H (evT Φ c e) fun b e' => ∀ H', Rel g κ O e' σ H' → Keep O H H' → Q b H'
def tG : Ag → TE
  | .c c => tEv Φ g W c
  | .b i => tVar i
def tAs : As → TA
  | .nil => tNil
  | .cons a r => tCons (tG Φ g W a) (tAs r)
abbrev DE (X : Cx) (e : Expr) (c : C) : Prop := PE X e (tEv Φ g W c)
abbrev DG (X : Cx) (e : Expr) (c : Ag) : Prop := PE X e (tG Φ g W c)
abbrev DA (X : Cx) (es : List Expr) (c : As) : Prop := PA X es (tAs Φ g W c)
abbrev DT (X : Cx) (e : Expr) (c : C) : Prop := PT X e (tTs Φ g W c)
end
section
variable {Φ : Orc} {g : Gm} {W : WX} {X : Cx} {κ : Kp} {O : Addr → Prop} {σ : L2.St} {H : Hp} {e : Sl}
theorem PE.from {X : Cx} {e : Expr} {t t' : TE} (h : PE X e t) (i : ∀ σ H Q, t' σ H Q → t σ H Q) : PE X e t' := ⟨fun pins s σ H Q I q => h.run pins s σ H Q I (i σ H Q q)⟩
theorem PT.from {X : Cx} {e : Expr} {t t' : TT} (h : PT X e t) (i : ∀ σ H Q, t' σ H Q → t σ H Q) : PT X e t' := ⟨fun pins s σ H Q I q => h.run pins s σ H Q I (i σ H Q q)⟩
theorem PA.from {X : Cx} {e : List Expr} {t t' : TA} (h : PA X e t) (i : ∀ σ H Q, t' σ H Q → t σ H Q) : PA X e t' := ⟨fun pos pins s σ H Q I q => h.run pos pins s σ H Q I (i σ H Q q)⟩
theorem PS.from {X : Cx} {e : Stmt} {t t' : TS} (h : PS X e t) (i : ∀ D σ H, t' D σ H → t D σ H) : PS X e t' := ⟨fun pins s σ H D I q => h.run pins s σ H D I (i D σ H q)⟩
theorem PSs.from {X : Cx} {e : List Stmt} {t t' : TS} (h : PSs X e t) (i : ∀ D σ H, t' D σ H → t D σ H) : PSs X e t' := ⟨fun pins s σ H D I q => h.run pins s σ H D I (i D σ H q)⟩
/-- a part is run -/
theorem go_e (R : Rel g κ O e σ H) {c : C} {Q : VK} (h : Run g κ O W σ H (ev Φ c e) fun d e' => ∀ v H', Rel g κ O e' σ H' → Keep O H H' → GotX g κ O e' σ H H' v d (isF c) → Q v H') : tEv Φ g W c σ H Q := ⟨κ, O, e, R, h⟩
theorem go_g (RR : Rel g κ O e σ H) {a : Ag} {Q : VK} (h : Run g κ O W σ H (evG Φ a e) fun x e' => ∀ v H', Rel g κ O e' σ H' → Keep O H H' → VrOk g κ O σ H' v x → Q v H') : tG Φ g W a σ H Q := by
  cases a with
  | c c =>
    refine ⟨κ, O, e, RR, Run.imp (Run.bind h) fun d e' _ k v H' R' K' G => ?_⟩
    exact k H' K' v H' R' K' G.dat
  | b i =>
    have h' : Run g κ O W σ H (match e[i]? with
      | some (.ow _) => R.ok (Sum.inr i) e
      | some (.sh _) => R.ok (Sum.inr i) e
      | _ => R.bad) fun x e' => ∀ v H', Rel g κ O e' σ H' → Keep O H H' → VrOk g κ O σ H' v x → Q v H' := h
    cases z : e[i]? with
    | none => rw [z] at h'; exact h'.elim
    | some u =>
      rw [z] at h'
      cases u with
      | un => exact h'.elim
      | sh d =>
        obtain ⟨v, a, b⟩ := RR.sh i d z
        exact ⟨v, a, h' v H RR (Keep.refl _ _) a⟩
      | ow l =>
        obtain ⟨p, vs, a, b⟩ := RR.ow i l z
        exact ⟨.ref p, a, h' _ H RR (Keep.refl _ _) a⟩
theorem go_as {as : As} : ∀ {H : Hp} {e : Sl} (R : Rel g κ O e σ H) {Q : List V → Hp → Prop} (h : Run g κ O W σ H (evAs Φ as e) fun xs e' => ∀ vs H', Rel g κ O e' σ H' → Keep O H H' → VrsOk g κ O σ H' vs xs → Q vs H'), tAs Φ g W as σ H Q := by
  induction as using As.rec (motive_1 := fun _ => True) (motive_2 := fun _ => True) (motive_4 := fun _ => True) (motive_5 := fun _ => True) (motive_6 := fun _ => True) with
  | nil =>
    intro H e R Q h
    exact h [] H R (Keep.refl _ _) .nil
  | cons a r _ ih =>
    intro H e R Q h
    refine go_g R (Run.imp (Run.bind h) fun x e1 _ k v H1 R1 K1 V1 => ?_)
    refine ih R1 (Run.imp (Run.bind (k H1 K1)) fun xs e2 _ k2 vs H2 R2 K2 V2 => ?_)
    exact k2 H2 K2 (v :: vs) H2 R2 (K1.trans K2) (.cons (V1.keep K2) V2)
  | _ => trivial
end
end Pv

namespace Pv
open PySem PySem.Spec PyProof.Rows L2

/-! ## 6. operations -/
def Pr2 (g : Gm) (f : D → D → Option D) (fl : Bool) : R2 := fun x y H Q => ∃ (m : Addr → Prop) (d d' z : D), (∀ a, m a → H a ≠ none) ∧ DatW g m H x d ∧ DatW g m H y d' ∧ f d d' = some z ∧
  ∀ v H', (∀ a o, H a = some o → H' a = some o) → Got g m H H' v z fl → Q v H'
def Pr1 (g : Gm) (f : D → Option D) (fl : Bool) : V → Hp → VK → Prop := fun x H Q => ∃ (m : Addr → Prop) (d z : D), (∀ a, m a → H a ≠ none) ∧ DatW g m H x d ∧ f d = some z ∧
  ∀ v H', (∀ a o, H a = some o → H' a = some o) → Got g m H H' v z fl → Q v H'
def Pr1' (g : Gm) (f : D → Option D) (fl : Bool) : List V → Hp → VK → Prop := fun xs H Q => ∃ x, xs = [x] ∧ Pr1 g f fl x H Q
def Pr2' (g : Gm) (f : D → D → Option D) (fl : Bool) : List V → Hp → VK → Prop := fun xs H Q => ∃ x y, xs = [x, y] ∧ Pr2 g f fl x y H Q
theorem ext_refl {H : Hp} : ∀ a o, H a = some o → H a = some o := fun _ _ h => h
theorem ext_upd {H : Hp} {p : Addr} {u : HO} (h : H p = none) : ∀ a o, H a = some o → (upd H p u) a = some o := fun a o e => by
  rw [upd_ne (ne_of_none e h)]
  exact e
section
variable {g : Gm} {m : Addr → Prop} {H : Hp}
theorem upd_datL {p : Addr} {u : HO} {vs : List V} {l : List D} (h : H p = none) (d : DatL g m H vs l) : DatL g m (upd H p u) vs l := d.mono (fun a o _ e => ext_upd h a o e) fun _ _ z _ => z
theorem got_tup {p : Addr} {vs : List V} {l : List D} (h : H p = none) (hm : ∀ a, m a → H a ≠ none) (hz : vs.length ≤ sizeLine) (d : DatL g m H vs l) (fl : Bool) : Got g m H (upd H p (.tup vs)) (.ref p) (.tup l) fl :=
  Got.flag (.tup upd_same (fun z => hm p z h) hz (upd_datL h d)) (fun l q => by cases q) fl
theorem got_lst {p : Addr} {vs : List V} {l : List D} (h : H p = none) (hm : ∀ a, m a → H a ≠ none) (hz : vs.length ≤ sizeLine) (d : DatL g m H vs l) (fl : Bool) : Got g m H (upd H p (.lst vs)) (.ref p) (.lst l) fl :=
  ⟨.lst upd_same (fun z => hm p z h) hz (upd_datL h d), fun _ l' e => by
    cases e
    exact ⟨p, vs, rfl, h, upd_same, hz, d.mono (fun a o _ e => ext_upd h a o e) fun a o z e => z.elim id fun z => by subst z; rw [h] at e; cases e⟩⟩
theorem got_int (i : Int) (fl : Bool) : Got g m H H (.int i) (.int i) fl := Got.flag (.int i) (fun l q => by cases q) fl
theorem got_bl (i : Bool) (fl : Bool) : Got g m H H (.bl i) (.bl i) fl := Got.flag (.bl i) (fun l q => by cases q) fl
theorem got_non (fl : Bool) : Got g m H H .non .non fl := Got.flag .non (fun l q => by cases q) fl
theorem got_str (x : Str) (h : x.length ≤ sizeLine) (fl : Bool) : Got g m H H (.str x) (.str x) fl := Got.flag (.str x h) (fun l q => by cases q) fl
theorem lim {n : Nat} (h : n ≤ LIM) : n ≤ sizeLine := by rw [sizeLine_eq]; exact h
theorem liml {n : Nat} (h : n < LIM) : n < sizeLine := by rw [sizeLine_eq]; exact h
theorem ite_some {α : Type} {c : Prop} [Decidable c] {a z : α} (h : (if c then some a else none) = some z) : c ∧ a = z := by
  by_cases hc : c
  · rw [if_pos hc] at h; exact ⟨hc, Option.some.inj h⟩
  · rw [if_neg hc] at h; cases h
theorem small_ok {i : Int} (h : small i = true) : -(2 ^ 64) < i ∧ i < 2 ^ 64 := by
  unfold small at h
  rw [Bool.and_eq_true] at h
  exact ⟨of_decide_eq_true h.1, of_decide_eq_true h.2⟩
theorem okD_ok {d : D} (h : okD d = true) : plain d = true ∧ SeqAt.shaped (toPy d) = true := by
  unfold okD at h
  rw [Bool.and_eq_true] at h
  exact h
theorem datL_len {vs : List V} {l : List D} (d : DatL g m H vs l) (h : l.length ≤ LIM) : vs.length ≤ sizeLine := by rw [d.length]; exact lim h
end
section
variable {X : Cx} {g : Gm} (hK : X.K = g.K) (fl : Bool)
include hK
theorem r_add : OpR X (binaryOp .Add) (Pr2 g pAdd fl) := by
  intro pins s σ H x y v u Q I rx ry ⟨m, d, d', z, hm, hx, hy, hf, q⟩
  cases d with
  | int i =>
    cases d' with
    | int j =>
      cases hx.int; cases hy.int; cases hf
      exact op_add pins s σ H _ _ v u Q I rx ry ⟨i, j, rfl, rfl, q _ H ext_refl (got_int _ fl)⟩
    | _ => cases hf
  | str i =>
    cases d' with
    | str j =>
      obtain ⟨rfl, h1⟩ := hx.str
      obtain ⟨rfl, h2⟩ := hy.str
      obtain ⟨hl, rfl⟩ := ite_some hf
      · exact op_add_str pins s σ H _ _ v u Q I rx ry ⟨i, j, rfl, rfl, lim hl, q _ H ext_refl (got_str _ (by rw [Str.length_append]; exact lim hl) fl)⟩
    | _ => cases hf
  | tup a =>
    cases d' with
    | tup b =>
      obtain ⟨p, xs, rfl, hp, zx, dx⟩ := hx.tup
      obtain ⟨p', ys, rfl, hp', zy, dy⟩ := hy.tup
      obtain ⟨hl, rfl⟩ := ite_some hf
      · have hz : xs.length + ys.length ≤ sizeLine := by rw [dx.length, dy.length]; exact lim hl
        have app := dx.append dy
        by_cases hx0 : xs = []
        · subst hx0
          cases dx
          cases rx
          cases ry
          obtain ⟨its, r1, p1, _⟩ := I.tuple (SqT.of hp)
          obtain ⟨its2, r2, p2, _⟩ := I.tuple (SqT.of hp')
          cases r1
          obtain ⟨⟨cls, dd, data, sl⟩, ho, hc, n, hd⟩ := id p1
          obtain ⟨⟨cls2, dd2, data2, sl2⟩, ho2, hc2, n2, hd2⟩ := id p2
          simp only at hc hd hc2 hd2
          subst hc hd hc2 hd2
          refine concat_meets ⟨_, ho, rfl⟩ ⟨_, ho2, rfl⟩ noFill_tuple_add seq_tuple_add PySem.F.slot_tuple_add PySem.F.entry_tuple_add (PySem.F.args_tuple_add_2 _ _)
            (tuple_addW0 p p' _ _ n n2 dd dd2 sl sl2 rfl) ⟨ho, ho2, ?_⟩
          exact ⟨.ref p', H, I, rfl, q _ H ext_refl (Got.flag (hy.dat fun l q => by cases q) (fun l q => by cases q) fl)⟩
        · refine op_catT pins s σ H _ _ v u Q I rx ry ⟨p, p', xs, ys, rfl, rfl, SqT.of hp, SqT.of hp', hx0, hz, fun hy0 => ?_, fun _ p2 hp2 => ?_⟩
          · subst hy0
            cases dy
            rw [List.append_nil] at q
            exact q _ H ext_refl (Got.flag (hx.dat fun l q => by cases q) (fun l q => by cases q) fl)
          · exact q _ _ (ext_upd hp2) (got_tup hp2 hm (by rw [List.length_append]; exact hz) app fl)
    | _ => cases hf
  | lst a =>
    cases d' with
    | lst b =>
      obtain ⟨p, xs, rfl, hp, zx, dx⟩ := hx.lst
      obtain ⟨p', ys, rfl, hp', zy, dy⟩ := hy.lst
      obtain ⟨hl, rfl⟩ := ite_some hf
      · have hz : xs.length + ys.length ≤ sizeLine := by rw [dx.length, dy.length]; exact lim hl
        exact op_cat pins s σ H _ _ v u Q I rx ry ⟨p, p', xs, ys, rfl, rfl, hp, hp', hz, fun p2 hp2 => q _ _ (ext_upd hp2) (got_lst hp2 hm (by rw [List.length_append]; exact hz) (dx.append dy) fl)⟩
    | _ => cases hf
  | _ => cases hf
theorem r_sub : OpR X (binaryOp .Sub) (Pr2 g pSub fl) := by
  intro pins s σ H x y v u Q I rx ry ⟨m, d, d', z, hm, hx, hy, hf, q⟩
  cases d with
  | int i =>
    cases d' with
    | int j =>
      cases hx.int; cases hy.int; cases hf
      exact op_sub pins s σ H _ _ v u Q I rx ry ⟨i, j, rfl, rfl, q _ H ext_refl (got_int _ fl)⟩
    | _ => cases hf
  | _ => cases hf
theorem r_mul : OpR X (binaryOp .Mult) (Pr2 g pMul fl) := by
  intro pins s σ H x y v u Q I rx ry ⟨m, d, d', z, hm, hx, hy, hf, q⟩
  cases d with
  | int i =>
    cases d' with
    | int j =>
      cases hx.int; cases hy.int
      obtain ⟨hs, rfl⟩ := ite_some hf
      · rw [Bool.or_eq_true] at hs
        exact op_mul pins s σ H _ _ v u Q I rx ry ⟨i, j, rfl, rfl, hs.elim (fun h => .inl (small_ok h)) fun h => .inr (small_ok h), q _ H ext_refl (got_int _ fl)⟩
    | _ => cases hf
  | lst a =>
    cases d' with
    | int k =>
      obtain ⟨p, xs, rfl, hp, zx, dx⟩ := hx.lst
      cases hy.int
      obtain ⟨hs, rfl⟩ := ite_some hf
      · simp only [Bool.and_eq_true, decide_eq_true_eq] at hs
        obtain ⟨⟨⟨h0, h1⟩, h2⟩, h3⟩ := hs
        have hl : ((List.replicate k.toNat xs).flatten).length ≤ sizeLine := by
          rw [PyProof.Rows.lm_len_rep_flat, dx.length, Nat.mul_comm]; exact lim h3
        exact op_rep pins s σ H _ _ v u Q I rx ry ⟨p, k, xs, rfl, rfl, hp, by omega, by omega, by rw [dx.length]; exact lim h3, fun p2 hp2 => q _ _ (ext_upd hp2) (got_lst hp2 hm hl (dx.rep _) fl)⟩
    | _ => cases hf
  | tup a =>
    cases d' with
    | int k =>
      obtain ⟨p, xs, rfl, hp, zx, dx⟩ := hx.tup
      cases hy.int
      obtain ⟨⟨h0, h1, h2, h3⟩, rfl⟩ := ite_some hf
      have hl : ((List.replicate k.toNat xs).flatten).length ≤ sizeLine := by
        rw [PyProof.Rows.lm_len_rep_flat, dx.length, sizeLine_eq]
        have a1 : k.toNat * a.length ≤ 1000 * 1000 := Nat.mul_le_mul (by omega) h3
        omega
      exact op_repT pins s σ H _ _ v u Q I rx ry ⟨p, k, xs, rfl, rfl, SqT.of hp, (fun z => by subst z; cases dx; cases h0), h1, h2, by rw [dx.length]; exact h3, fun p2 hp2 => q _ _ (ext_upd hp2) (got_tup hp2 hm hl (dx.rep _) fl)⟩
    | _ => cases hf
  | _ => cases hf
theorem r_mod : OpR X (binaryOp .Mod) (Pr2 g pMod fl) := by
  intro pins s σ H x y v u Q I rx ry ⟨m, d, d', z, hm, hx, hy, hf, q⟩
  cases d with
  | int i =>
    cases d' with
    | int j =>
      cases hx.int; cases hy.int
      obtain ⟨hs, rfl⟩ := ite_some hf
      exact op_mod pins s σ H _ _ v u Q I rx ry ⟨i, j, rfl, rfl, hs, q _ H ext_refl (got_int _ fl)⟩
    | _ => cases hf
  | _ => cases hf
theorem r_div : OpR X (binaryOp .FloorDiv) (Pr2 g pDiv fl) := by
  intro pins s σ H x y v u Q I rx ry ⟨m, d, d', z, hm, hx, hy, hf, q⟩
  cases d with
  | int i =>
    cases d' with
    | int j =>
      cases hx.int; cases hy.int
      obtain ⟨hs, rfl⟩ := ite_some hf
      exact op_fdiv pins s σ H _ _ v u Q I rx ry ⟨i, j, rfl, rfl, hs, q _ H ext_refl (got_int _ fl)⟩
    | _ => cases hf
  | _ => cases hf
theorem r_pow : OpR X (binaryOp .Pow) (Pr2 g pPow fl) := by
  intro pins s σ H x y v u Q I rx ry ⟨m, d, d', z, hm, hx, hy, hf, q⟩
  cases d with
  | int i =>
    cases d' with
    | int j =>
      cases hx.int; cases hy.int
      obtain ⟨hs, rfl⟩ := ite_some hf
      exact op_pow pins s σ H _ _ v u Q I rx ry ⟨i, j, rfl, rfl, hs, q _ H ext_refl (got_int _ fl)⟩
    | _ => cases hf
  | _ => cases hf
theorem r_eq (hu : X.A.units + 64 < cLine) : OpR X (compareOp .Eq) (Pr2 g pEq fl) := by
  intro pins s σ H x y v u Q I rx ry ⟨m, d, d', z, hm, hx, hy, hf, q⟩
  obtain ⟨hs, rfl⟩ := ite_some hf
  rw [Bool.and_eq_true] at hs
  obtain ⟨a1, a2⟩ := okD_ok hs.1
  obtain ⟨b1, b2⟩ := okD_ok hs.2
  exact op_eqD hu pins s σ H _ _ v u Q I rx ry ⟨toPy d, toPy d', by rw [hK]; exact hx.dp a1, by rw [hK]; exact hy.dp b1, a2, b2, q _ H ext_refl (got_bl _ fl)⟩
theorem r_ne (hu : X.A.units + 64 < cLine) : OpR X (compareOp .NotEq) (Pr2 g pNe fl) := by
  intro pins s σ H x y v u Q I rx ry ⟨m, d, d', z, hm, hx, hy, hf, q⟩
  obtain ⟨hs, rfl⟩ := ite_some hf
  rw [Bool.and_eq_true] at hs
  obtain ⟨a1, a2⟩ := okD_ok hs.1
  obtain ⟨b1, b2⟩ := okD_ok hs.2
  exact op_neD hu pins s σ H _ _ v u Q I rx ry ⟨toPy d, toPy d', by rw [hK]; exact hx.dp a1, by rw [hK]; exact hy.dp b1, a2, b2, q _ H ext_refl (got_bl _ fl)⟩
omit hK in
theorem intsD_ok : ∀ {l : List D} {ns : List Int}, intsD l = some ns → l = ns.map D.int
  | [], ns, h => by cases h; rfl
  | .int i :: l, ns, h => by
    obtain ⟨r, hr, rfl⟩ := Option.map_eq_some_iff.mp (show (intsD l).map (i :: ·) = some ns from h)
    rw [intsD_ok hr]; rfl
  | .non :: _, _, h => by cases h
  | .bl _ :: _, _, h => by cases h
  | .str _ :: _, _, h => by cases h
  | .tup _ :: _, _, h => by cases h
  | .lst _ :: _, _, h => by cases h
  | .scr _ :: _, _, h => by cases h
  | .fn _ :: _, _, h => by cases h
omit hK in
theorem boolsD_ok : ∀ {l : List D} {ns : List Bool}, boolsD l = some ns → l = ns.map D.bl
  | [], ns, h => by cases h; rfl
  | .bl i :: l, ns, h => by
    obtain ⟨r, hr, rfl⟩ := Option.map_eq_some_iff.mp (show (boolsD l).map (i :: ·) = some ns from h)
    rw [boolsD_ok hr]; rfl
  | .non :: _, _, h => by cases h
  | .int _ :: _, _, h => by cases h
  | .str _ :: _, _, h => by cases h
  | .tup _ :: _, _, h => by cases h
  | .lst _ :: _, _, h => by cases h
  | .scr _ :: _, _, h => by cases h
  | .fn _ :: _, _, h => by cases h
theorem r_lt (hu : X.A.units < cLine) : OpR X (compareOp .Lt) (Pr2 g pLt fl) := by
  intro pins s σ H x y v u Q I rx ry ⟨m, d, d', z, hm, hx, hy, hf, q⟩
  cases d with
  | int i =>
    cases d' with
    | int j =>
      cases hx.int; cases hy.int; cases hf
      exact op_lt pins s σ H _ _ v u Q I rx ry ⟨i, j, rfl, rfl, q _ H ext_refl (got_bl _ fl)⟩
    | _ => cases hf
  | str i =>
    cases d' with
    | str j =>
      obtain ⟨rfl, _⟩ := hx.str
      obtain ⟨rfl, _⟩ := hy.str
      cases hf
      exact op_lt_str pins s σ H _ _ v u Q I rx ry ⟨i, j, rfl, rfl, q _ H ext_refl (got_bl _ fl)⟩
    | _ => cases hf
  | tup a =>
    cases d' with
    | tup b =>
      obtain ⟨p, xs, rfl, hp, zx, dx⟩ := hx.tup
      obtain ⟨p', ys, rfl, hp', zy, dy⟩ := hy.tup
      have hf' : (match intsD a, intsD b with
        | some x, some y => some (D.bl (HT.lexLt x y))
        | _, _ => none) = some z := hf
      cases ha : intsD a with
      | none => rw [ha] at hf'; cases hf'
      | some ns =>
        cases hb : intsD b with
        | none => rw [ha, hb] at hf'; cases hf'
        | some ms =>
          rw [ha, hb] at hf'
          cases hf'
          have e1 := intsD_ok ha
          have e2 := intsD_ok hb
          subst e1 e2
          cases dx.ints
          cases dy.ints
          exact op_ltT hu pins s σ H _ _ v u Q I rx ry ⟨p, p', ns, ms, rfl, rfl, SqT.of hp, SqT.of hp', q _ H ext_refl (got_bl _ fl)⟩
    | _ => cases hf
  | _ => cases hf
theorem r_le : OpR X (compareOp .LtE) (Pr2 g pLe fl) := by
  intro pins s σ H x y v u Q I rx ry ⟨m, d, d', z, hm, hx, hy, hf, q⟩
  cases d with
  | int i =>
    cases d' with
    | int j =>
      cases hx.int; cases hy.int; cases hf
      exact op_le pins s σ H _ _ v u Q I rx ry ⟨i, j, rfl, rfl, q _ H ext_refl (got_bl _ fl)⟩
    | _ => cases hf
  | _ => cases hf
theorem r_gt : OpR X (compareOp .Gt) (Pr2 g pGt fl) := by
  intro pins s σ H x y v u Q I rx ry ⟨m, d, d', z, hm, hx, hy, hf, q⟩
  cases d with
  | int i =>
    cases d' with
    | int j =>
      cases hx.int; cases hy.int; cases hf
      exact op_gt pins s σ H _ _ v u Q I rx ry ⟨i, j, rfl, rfl, q _ H ext_refl (got_bl _ fl)⟩
    | _ => cases hf
  | _ => cases hf
theorem r_ge : OpR X (compareOp .GtE) (Pr2 g pGe fl) := by
  intro pins s σ H x y v u Q I rx ry ⟨m, d, d', z, hm, hx, hy, hf, q⟩
  cases d with
  | int i =>
    cases d' with
    | int j =>
      cases hx.int; cases hy.int; cases hf
      exact op_ge pins s σ H _ _ v u Q I rx ry ⟨i, j, rfl, rfl, q _ H ext_refl (got_bl _ fl)⟩
    | _ => cases hf
  | _ => cases hf
omit hK in
theorem any_toPy (d : D) : ∀ l : List D, ((toPyL l).any fun z => PyData.eqv z (toPy d)) = l.any fun z => eqv z d
  | [] => rfl
  | x :: l => by
    show (PyData.eqv (toPy x) (toPy d) || (toPyL l).any _) = _
    rw [any_toPy d l, List.any_cons]; rfl
omit hK in
theorem op_inDT (hu : X.A.units + 65 < cLine) : OpR X (compareOp .In) (fun x y H Q => ∃ d ds, Dp X.K H x d ∧ Dp X.K H y (.tuple ds) ∧ SeqAt.shaped d = true ∧ SeqAt.shaped (.tuple ds) = true ∧ Q (.bl (ds.any fun z => PyData.eqv z d)) H) := by
  intro pins s σ H x y v u Q I rx ry h
  obtain ⟨d, ds, hd, he, sd, se, q⟩ := h
  obtain ⟨as, r1⟩ := Dp.reads I d x v hd rx
  obtain ⟨bs, r2⟩ := Dp.reads I (.tuple ds) y u he ry
  exact SeqAt.in_tuple_reads r2 r1 (SeqAt.canLay_of_shaped se) (SeqAt.canLay_of_shaped sd) (room_in_shaped sd hu) ⟨.bl _, H, I, rfl, q⟩
omit hK in
theorem op_notInDT (hu : X.A.units + 65 < cLine) : OpR X (compareOp .NotIn) (fun x y H Q => ∃ d ds, Dp X.K H x d ∧ Dp X.K H y (.tuple ds) ∧ SeqAt.shaped d = true ∧ SeqAt.shaped (.tuple ds) = true ∧ Q (.bl (!ds.any fun z => PyData.eqv z d)) H) := by
  intro pins s σ H x y v u Q I rx ry h
  obtain ⟨d, ds, hd, he, sd, se, q⟩ := h
  obtain ⟨as, r1⟩ := Dp.reads I d x v hd rx
  obtain ⟨bs, r2⟩ := Dp.reads I (.tuple ds) y u he ry
  exact SeqAt.notIn_tuple_reads r2 r1 (SeqAt.canLay_of_shaped se) (SeqAt.canLay_of_shaped sd) (room_in_shaped sd hu) ⟨.bl _, H, I, rfl, q⟩
theorem r_in (hu : X.A.units + 65 < cLine) : OpR X (compareOp .In) (Pr2 g (pIn false) fl) := by
  intro pins s σ H x y v u Q I rx ry ⟨m, d, d', z, hm, hx, hy, hf, q⟩
  cases d' with
  | tup l =>
    obtain ⟨hs, rfl⟩ := ite_some hf
    rw [Bool.and_eq_true] at hs
    obtain ⟨a1, a2⟩ := okD_ok hs.1
    obtain ⟨b1, b2⟩ := okD_ok hs.2
    exact op_inDT hu pins s σ H _ _ v u Q I rx ry ⟨toPy d, toPyL l, by rw [hK]; exact hx.dp a1, by rw [hK]; exact hy.dp b1, a2, b2, by rw [any_toPy]; exact q _ H ext_refl (got_bl _ fl)⟩
  | lst l =>
    obtain ⟨hs, rfl⟩ := ite_some hf
    rw [Bool.and_eq_true] at hs
    obtain ⟨a1, a2⟩ := okD_ok hs.1
    obtain ⟨b1, b2⟩ := okD_ok hs.2
    exact op_inD hu pins s σ H _ _ v u Q I rx ry ⟨toPy d, toPyL l, by rw [hK]; exact hx.dp a1, by rw [hK]; exact hy.dp b1, a2, b2, by rw [any_toPy]; exact q _ H ext_refl (got_bl _ fl)⟩
  | str j =>
    cases d with
    | str i =>
      obtain ⟨rfl, _⟩ := hx.str
      obtain ⟨rfl, _⟩ := hy.str
      cases hf
      exact op_in_str pins s σ H _ _ v u Q I rx ry ⟨i, j, rfl, rfl, q _ H ext_refl (got_bl _ fl)⟩
    | _ => cases hf
  | _ => cases hf
theorem r_notin (hu : X.A.units + 65 < cLine) : OpR X (compareOp .NotIn) (Pr2 g (pIn true) fl) := by
  intro pins s σ H x y v u Q I rx ry ⟨m, d, d', z, hm, hx, hy, hf, q⟩
  cases d' with
  | tup l =>
    obtain ⟨hs, rfl⟩ := ite_some hf
    rw [Bool.and_eq_true] at hs
    obtain ⟨a1, a2⟩ := okD_ok hs.1
    obtain ⟨b1, b2⟩ := okD_ok hs.2
    exact op_notInDT hu pins s σ H _ _ v u Q I rx ry ⟨toPy d, toPyL l, by rw [hK]; exact hx.dp a1, by rw [hK]; exact hy.dp b1, a2, b2, by rw [any_toPy]; exact q _ H ext_refl (got_bl _ fl)⟩
  | lst l =>
    obtain ⟨hs, rfl⟩ := ite_some hf
    rw [Bool.and_eq_true] at hs
    obtain ⟨a1, a2⟩ := okD_ok hs.1
    obtain ⟨b1, b2⟩ := okD_ok hs.2
    exact op_notInD hu pins s σ H _ _ v u Q I rx ry ⟨toPy d, toPyL l, by rw [hK]; exact hx.dp a1, by rw [hK]; exact hy.dp b1, a2, b2, by rw [any_toPy]; exact q _ H ext_refl (got_bl _ fl)⟩
  | str j =>
    cases d with
    | str i =>
      obtain ⟨rfl, _⟩ := hx.str
      obtain ⟨rfl, _⟩ := hy.str
      cases hf
      exact op_notin_str pins s σ H _ _ v u Q I rx ry ⟨i, j, rfl, rfl, q _ H ext_refl (got_bl _ fl)⟩
    | _ => cases hf
  | _ => cases hf
omit hK in
theorem DatL.atI {m : Addr → Prop} {H : Hp} {vs : List V} {l : List D} (h : DatL g m H vs l) {i : Int} {d : D} (e : L2.atI l i = some d) : ∃ v, L2.atI vs i = some v ∧ Dat g m H v d := by
  unfold L2.atI at e ⊢
  rw [h.length]
  cases q : L2.ixN l.length i with
  | none => rw [q] at e; cases e
  | some j =>
    rw [q] at e
    exact h.get e
omit hK in
theorem atI_map {α β : Type} {f : α → β} {l : List α} {i : Int} {d : α} (e : L2.atI l i = some d) : L2.atI (l.map f) i = some (f d) := by
  unfold L2.atI at e ⊢
  rw [List.length_map]
  cases q : L2.ixN l.length i with
  | none => rw [q] at e; cases e
  | some j =>
    rw [q] at e
    have e' : l[j]? = some d := e
    show (l.map f)[j]? = some (f d)
    rw [List.getElem?_map, e']; rfl
theorem r_ix : IxR X (Pr2 g pIx false) := by
  intro value slice pins s σ H x y v u Q I rx ry ⟨m, d, d', z, hm, hx, hy, hf, q⟩ hs
  cases d with
  | tup l =>
    cases d' with
    | int i =>
      obtain ⟨p, xs, rfl, hp, zx, dx⟩ := hx.tup
      cases hy.int
      obtain ⟨w, hw, dw⟩ := dx.atI hf
      exact ix_tup value slice pins s σ H _ _ v u Q I rx ry ⟨p, xs, i, w, rfl, rfl, SqT.of hp, hw, q _ H ext_refl ⟨dw, fun z => by cases z⟩⟩ hs
    | _ => cases hf
  | lst l =>
    cases d' with
    | int i =>
      obtain ⟨p, xs, rfl, hp, zx, dx⟩ := hx.lst
      cases hy.int
      obtain ⟨w, hw, dw⟩ := dx.atI hf
      exact ix_list value slice pins s σ H _ _ v u Q I rx ry ⟨p, xs, i, w, rfl, rfl, SqL.of hp, hw, q _ H ext_refl ⟨dw, fun z => by cases z⟩⟩ hs
    | _ => cases hf
  | scr l =>
    cases d' with
    | int i =>
      obtain ⟨p, rfl, hp⟩ := hx.scr
      cases hy.int
      obtain ⟨n, hn, rfl⟩ := Option.map_eq_some_iff.mp (show (L2.atI l i).map D.int = some z from hf)
      exact ix_list value slice pins s σ H _ _ v u Q I rx ry ⟨p, _, i, .int n, rfl, rfl, by rw [hK]; exact hp, atI_map hn, q _ H ext_refl (got_int _ _)⟩ hs
    | _ => cases hf
  | str a =>
    cases d' with
    | int i =>
      obtain ⟨rfl, hz⟩ := hx.str
      cases hy.int
      obtain ⟨c, hc, rfl⟩ := Option.map_eq_some_iff.mp (show (L2.atI a.cps.toList i).map (fun c => D.str ⟨#[c]⟩) = some z from hf)
      exact ix_str value slice pins s σ H _ _ v u Q I rx ry ⟨a, i, c, rfl, rfl, hz, hc, q _ H ext_refl (got_str _ (by show 1 ≤ sizeLine; decide) _)⟩ hs
    | _ => cases hf
  | _ => cases hf
end
end Pv

namespace Pv
open PySem PySem.Spec PyProof.Rows L2

/-! ### the library's walks over a tuple of ints -/
section
variable {prog : Program} {w : World} {A : Around} {E : Value → Shared → Prop} {s : Shared} {l : Addr} {xs : Array (Int × Tok)}
theorem iter_intTup {Q : Value → Shared → Prop} (hl : s.heap.IsTuple l (intItems xs))
    (h : ∀ s₂ : Shared, s₂ = { s with heap := s.heap.push { cls := .type "tuple_iterator", data := .fields #[.ref l, .int 0 0] } } →
      (s₂.heap.IsTupleIter s.heap.objs.size l 0 ∧ s₂.heap.IsTuple l (intItems xs)) → (∀ b ∈ [s.heap.objs.size, l], b < s₂.heap.objs.size) → l ≠ s.heap.objs.size → Q (.ref s.heap.objs.size) s₂) :
    wpAny (model prog w) A (pyIter (.ref l)) Q E s := by
  have hlt : l < s.heap.objs.size := by obtain ⟨_, e, _⟩ := hl; exact Heap.lt_size e
  refine wpAny_pyIter_tuple hl (h _ rfl ⟨⟨_, Heap.get?_push_size _ rfl, rfl, rfl⟩, hl.push _⟩ (fun b hb => ?_) (Nat.ne_of_lt hlt))
  show b < (s.heap.push _).objs.size
  rw [Heap.size_push]
  rcases List.mem_cons.mp hb with rfl | hb
  · exact Nat.lt_succ_self _
  · rcases List.mem_cons.mp hb with rfl | hb
    · exact Nat.lt_succ_of_lt hlt
    · cases hb
theorem old_keptT {h' : Heap} (hk : ∀ b o, b ∉ [s.heap.objs.size] → (s.heap.push { cls := .type "tuple_iterator", data := .fields #[.ref l, .int 0 0] }).get? b = some o → h'.get? b = some o) :
    ∀ b o, s.heap.get? b = some o → h'.get? b = some o := fun b o e => by
  refine hk b o (fun hm => ?_) (Heap.get?_push_of_some _ e)
  rcases List.mem_cons.mp hm with e1 | hm
  · exact absurd (e1 ▸ Heap.lt_size e) (Nat.lt_irrefl _)
  · cases hm
theorem sum_intTupG {Q : Value → Shared → Prop} (hh : A.handled = none) (hl : s.heap.IsTuple l (intItems xs))
    (h : ∀ h' tk t', (∀ b o, s.heap.get? b = some o → h'.get? b = some o) → Q (.int (preSum (numAt xs) xs.size) t') { s with heap := h', toks := tk }) :
    wpAny (model prog w) A (call (.builtin "sum") [.ref l]) Q E s := by
  refine call_sum_walkG (iter_intTup hl fun s₂ e st hfp hlI => ?_)
  subst e
  refine ⟨_, _, _, _, _, _, numAt xs, rfl, Walks.tuple (A := A.in1) hh _ l hlI (intItems xs), st, hfp, (fun _ _ => intItems_at), fun h' tk t' hk => ?_⟩
  have := h h' tk t' (old_keptT hk)
  simpa [intItems] using this
theorem max_intTup {Q : Value → Shared → Prop} (hh : A.handled = none) (hl : s.heap.IsTuple l (intItems xs)) (hne : 0 < xs.size)
    (h : ∀ v h' tk, (intItems xs)[argBest (fun i j => decide (numAt xs i > numAt xs j)) (xs.size - 1)]? = some v → (∀ b o, s.heap.get? b = some o → h'.get? b = some o) → Q v { s with heap := h', toks := tk }) :
    wpAny (model prog w) A (call (.builtin "max") [.ref l]) Q E s := by
  refine call_max_walk (iter_intTup hl fun s₂ e st hfp hlI => ?_)
  subst e
  refine ⟨_, _, _, _, _, _, _, rfl, Walks.tuple (A := A.in1) hh _ l hlI (intItems xs), st, hfp, by simpa [intItems] using hne, CmpOf.ints_gt (numAt xs) (fun _ _ => intItems_at), fun v h' tk hP hk => ?_⟩
  exact h v h' tk (by simpa [intItems] using hP) (old_keptT hk)
theorem min_intTup {Q : Value → Shared → Prop} (hh : A.handled = none) (hl : s.heap.IsTuple l (intItems xs)) (hne : 0 < xs.size)
    (h : ∀ v h' tk, (intItems xs)[argBest (fun i j => decide (numAt xs i < numAt xs j)) (xs.size - 1)]? = some v → (∀ b o, s.heap.get? b = some o → h'.get? b = some o) → Q v { s with heap := h', toks := tk }) :
    wpAny (model prog w) A (call (.builtin "min") [.ref l]) Q E s := by
  refine call_min_walk (iter_intTup hl fun s₂ e st hfp hlI => ?_)
  subst e
  refine ⟨_, _, _, _, _, _, _, rfl, Walks.tuple (A := A.in1) hh _ l hlI (intItems xs), st, hfp, by simpa [intItems] using hne, CmpOf.ints_lt (numAt xs) (fun _ _ => intItems_at), fun v h' tk hP hk => ?_⟩
  exact h v h' tk (by simpa [intItems] using hP) (old_keptT hk)
end
section
variable {prog : Program} {w : World} {A : Around} {E : Value → Shared → Prop} {s : Shared} {l : Addr} {its : List Value} {ns : List Int} {Q : Value → Shared → Prop}
theorem sum_rawT (hh : A.handled = none) (hl : s.heap.IsTuple l its.toArray) (hi : IntsAre its ns)
    (h : ∀ h' tk t', (∀ b o, s.heap.get? b = some o → h'.get? b = some o) → Q (.int ns.sum t') { s with heap := h', toks := tk }) : wpAny (model prog w) A (call (.builtin "sum") [.ref l]) Q E s := by
  obtain ⟨xs, e⟩ := hi.allInts.items
  have hn : numsOf (intItems xs).toList = ns := by rw [← e]; exact hi.numsOf
  rw [nums_intItems] at hn
  rw [e] at hl
  refine sum_intTupG hh hl fun h' tk t' hk => ?_
  have := h h' tk t' hk
  rw [preSum_eq, List.take_of_length_le (by simp), hn]; exact this
theorem max_rawT (hh : A.handled = none) (hl : s.heap.IsTuple l its.toArray) (hi : IntsAre its ns) (hne : 0 < ns.length)
    (h : ∀ h' tk M t', (∀ b o, s.heap.get? b = some o → h'.get? b = some o) → M ∈ ns → (∀ a, a ∈ ns → a ≤ M) → Q (.int M t') { s with heap := h', toks := tk }) : wpAny (model prog w) A (call (.builtin "max") [.ref l]) Q E s := by
  obtain ⟨xs, e⟩ := hi.allInts.items
  have hn : numsOf (intItems xs).toList = ns := by rw [← e]; exact hi.numsOf
  rw [nums_intItems] at hn
  subst hn
  rw [e] at hl
  have hsz : 0 < xs.size := by simpa using hne
  refine max_intTup hh hl hsz fun v h' tk hv hk => ?_
  obtain ⟨t, rfl⟩ := intItems_at hv
  obtain ⟨h1, h2⟩ := argBest_gt (numAt xs) (xs.size - 1)
  refine h h' tk _ t hk ?_ fun a ha => ?_
  · rw [numAt_eq]; exact PySem.getD_mem (by rw [List.length_map, Array.length_toList]; omega)
  · obtain ⟨j, hj, rfl⟩ := mem_getD ha
    rw [List.length_map, Array.length_toList] at hj
    rw [← numAt_eq]; exact h2 j (by omega)
theorem min_rawT (hh : A.handled = none) (hl : s.heap.IsTuple l its.toArray) (hi : IntsAre its ns) (hne : 0 < ns.length)
    (h : ∀ h' tk M t', (∀ b o, s.heap.get? b = some o → h'.get? b = some o) → M ∈ ns → (∀ a, a ∈ ns → M ≤ a) → Q (.int M t') { s with heap := h', toks := tk }) : wpAny (model prog w) A (call (.builtin "min") [.ref l]) Q E s := by
  obtain ⟨xs, e⟩ := hi.allInts.items
  have hn : numsOf (intItems xs).toList = ns := by rw [← e]; exact hi.numsOf
  rw [nums_intItems] at hn
  subst hn
  rw [e] at hl
  have hsz : 0 < xs.size := by simpa using hne
  refine min_intTup hh hl hsz fun v h' tk hv hk => ?_
  obtain ⟨t, rfl⟩ := intItems_at hv
  obtain ⟨h1, h2⟩ := argBest_lt (numAt xs) (xs.size - 1)
  refine h h' tk _ t hk ?_ fun a ha => ?_
  · rw [numAt_eq]; exact PySem.getD_mem (by rw [List.length_map, Array.length_toList]; omega)
  · obtain ⟨j, hj, rfl⟩ := mem_getD ha
    rw [List.length_map, Array.length_toList] at hj
    rw [← numAt_eq]; exact h2 j (by omega)
end
theorem mostOf_mem : ∀ (x : Int) (r : List Int), mostOf x r ∈ x :: r
  | x, [] => List.mem_cons_self
  | x, y :: r => by
    show mostOf (if x < y then y else x) r ∈ _
    rcases List.mem_cons.mp (mostOf_mem (if x < y then y else x) r) with h | h
    · rw [h]
      by_cases q : x < y
      · rw [if_pos q]; exact List.mem_cons_of_mem _ List.mem_cons_self
      · rw [if_neg q]; exact List.mem_cons_self
    · exact List.mem_cons_of_mem _ (List.mem_cons_of_mem _ h)
theorem mostOf_ge : ∀ (x : Int) (r : List Int), ∀ y ∈ x :: r, y ≤ mostOf x r
  | x, [], y, h => by
    rcases List.mem_cons.mp h with h | h
    · subst h; exact Int.le_refl _
    · cases h
  | x, z :: r, y, h => by
    show y ≤ mostOf (if x < z then z else x) r
    have b := mostOf_ge (if x < z then z else x) r (if x < z then z else x) List.mem_cons_self
    rcases List.mem_cons.mp h with h | h
    · subst h
      refine Int.le_trans ?_ b
      split <;> omega
    · rcases List.mem_cons.mp h with h | h
      · subst h
        refine Int.le_trans ?_ b
        split <;> omega
      · exact mostOf_ge _ r y (List.mem_cons_of_mem _ h)
theorem leastOf_mem : ∀ (x : Int) (r : List Int), leastOf x r ∈ x :: r
  | x, [] => List.mem_cons_self
  | x, y :: r => by
    show leastOf (if y < x then y else x) r ∈ _
    rcases List.mem_cons.mp (leastOf_mem (if y < x then y else x) r) with h | h
    · rw [h]
      by_cases q : y < x
      · rw [if_pos q]; exact List.mem_cons_of_mem _ List.mem_cons_self
      · rw [if_neg q]; exact List.mem_cons_self
    · exact List.mem_cons_of_mem _ (List.mem_cons_of_mem _ h)
theorem leastOf_le : ∀ (x : Int) (r : List Int), ∀ y ∈ x :: r, leastOf x r ≤ y
  | x, [], y, h => by
    rcases List.mem_cons.mp h with h | h
    · subst h; exact Int.le_refl _
    · cases h
  | x, z :: r, y, h => by
    show leastOf (if z < x then z else x) r ≤ y
    have b := leastOf_le (if z < x then z else x) r (if z < x then z else x) List.mem_cons_self
    rcases List.mem_cons.mp h with h | h
    · subst h
      refine Int.le_trans b ?_
      split <;> omega
    · rcases List.mem_cons.mp h with h | h
      · subst h
        refine Int.le_trans b ?_
        split <;> omega
      · exact leastOf_le _ r y (List.mem_cons_of_mem _ h)
theorem most_eq {x : Int} {r : List Int} {m : Int} (h1 : m ∈ x :: r) (h2 : ∀ y ∈ x :: r, y ≤ m) : m = mostOf x r :=
  Int.le_antisymm (mostOf_ge x r m h1) (h2 _ (mostOf_mem x r))
theorem least_eq {x : Int} {r : List Int} {m : Int} (h1 : m ∈ x :: r) (h2 : ∀ y ∈ x :: r, m ≤ y) : m = leastOf x r :=
  Int.le_antisymm (h2 _ (leastOf_mem x r)) (leastOf_le x r m h1)
theorem insI_perm (x : Int) : ∀ l, (insI x l).Perm (x :: l)
  | [] => List.Perm.refl _
  | y :: r => by
    show (if x ≤ y then x :: y :: r else y :: insI x r).Perm _
    split
    · exact List.Perm.refl _
    · exact ((insI_perm x r).cons y).trans (List.Perm.swap x y r)
theorem sortI_perm : ∀ l, (sortI l).Perm l
  | [] => List.Perm.refl _
  | x :: r => (insI_perm x (sortI r)).trans ((sortI_perm r).cons x)
theorem insI_sorted (x : Int) : ∀ l : List Int, l.Pairwise (· ≤ ·) → (insI x l).Pairwise (· ≤ ·)
  | [], _ => List.pairwise_singleton _ _
  | y :: r, h => by
    have h' := List.pairwise_cons.mp h
    show (if x ≤ y then x :: y :: r else y :: insI x r).Pairwise _
    by_cases q : x ≤ y
    · rw [if_pos q]
      refine List.pairwise_cons.mpr ⟨fun z hz => ?_, h⟩
      rcases List.mem_cons.mp hz with hz | hz
      · subst hz; exact q
      · exact Int.le_trans q (h'.1 z hz)
    · rw [if_neg q]
      refine List.pairwise_cons.mpr ⟨fun z hz => ?_, insI_sorted x r h'.2⟩
      rcases List.mem_cons.mp ((insI_perm x r).mem_iff.mp hz) with hz | hz
      · subst hz; omega
      · exact h'.1 z hz
theorem sortI_sorted : ∀ l : List Int, (sortI l).Pairwise (· ≤ ·)
  | [] => List.Pairwise.nil
  | x :: r => insI_sorted x _ (sortI_sorted r)
theorem sorted_unique {l l' : List Int} (h : l.Perm l') (a : l.Pairwise (· ≤ ·)) (b : l'.Pairwise (· ≤ ·)) : l = l' := List.Perm.eq_of_pairwise (fun x y _ _ h1 h2 => Int.le_antisymm h1 h2) a b h
section
variable {X : Cx} {g : Gm} (hK : X.K = g.K) (fl : Bool)
include hK
theorem c_len : CallR X (.builtin "len") (Pr1' g (p1 .len) fl) := by
  intro pins s σ H xs us Q I r ⟨x, e, m, d, z, hm, hx, hf, q⟩
  subst e
  cases d with
  | tup l =>
    obtain ⟨p, vs, rfl, hp, hz, dx⟩ := hx.tup
    cases hf
    exact call_len pins s σ H _ us Q I r ⟨_, l.length, rfl, .inr ⟨vs, SqT.of hp, dx.length.symm⟩, q _ H ext_refl (got_int _ fl)⟩
  | lst l =>
    obtain ⟨p, vs, rfl, hp, hz, dx⟩ := hx.lst
    cases hf
    exact call_len pins s σ H _ us Q I r ⟨_, l.length, rfl, .inl ⟨vs, SqL.of hp, dx.length.symm⟩, q _ H ext_refl (got_int _ fl)⟩
  | scr l =>
    obtain ⟨p, rfl, hp⟩ := hx.scr
    cases hf
    exact call_len pins s σ H _ us Q I r ⟨_, l.length, rfl, .inl ⟨_, by rw [hK]; exact hp, by rw [List.length_map]⟩, q _ H ext_refl (got_int _ fl)⟩
  | str y =>
    obtain ⟨rfl, hz⟩ := hx.str
    cases hf
    exact call_len pins s σ H _ us Q I r ⟨_, y.length, rfl, ⟨hz, rfl⟩, q _ H ext_refl (got_int _ fl)⟩
  | _ => cases hf
theorem c_all (hc : X.calm = true) : CallR X (.builtin "all") (Pr1' g (p1 .all) fl) := by
  intro pins s σ H xs us Q I r ⟨x, e, m, d, z, hm, hx, hf, q⟩
  subst e
  cases d with
  | lst l =>
    obtain ⟨p, vs, rfl, hp, hz, dx⟩ := hx.lst
    obtain ⟨bs, hb, rfl⟩ := Option.map_eq_some_iff.mp (show (boolsD l).map (fun bs => D.bl (bs.all id)) = some z from hf)
    have e := boolsD_ok hb
    subst e
    cases dx.bls
    exact cr_all hc pins s σ H _ us Q I r ⟨p, bs, rfl, SqL.of hp, q _ H ext_refl (got_bl _ fl)⟩
  | _ => cases hf
theorem c_any (hc : X.calm = true) : CallR X (.builtin "any") (Pr1' g (p1 .any) fl) := by
  intro pins s σ H xs us Q I r ⟨x, e, m, d, z, hm, hx, hf, q⟩
  subst e
  cases d with
  | lst l =>
    obtain ⟨p, vs, rfl, hp, hz, dx⟩ := hx.lst
    obtain ⟨bs, hb, rfl⟩ := Option.map_eq_some_iff.mp (show (boolsD l).map (fun bs => D.bl (bs.any id)) = some z from hf)
    have e := boolsD_ok hb
    subst e
    cases dx.bls
    exact cr_any hc pins s σ H _ us Q I r ⟨p, bs, rfl, SqL.of hp, q _ H ext_refl (got_bl _ fl)⟩
  | _ => cases hf
theorem c_sum (hc : X.calm = true) : CallR X (.builtin "sum") (Pr1' g (p1 .sum) fl) := by
  intro pins s σ H xs us Q I r ⟨x, e, m, d, z, hm, hx, hf, q⟩
  subst e
  cases d with
  | lst l =>
    obtain ⟨p, vs, rfl, hp, hz, dx⟩ := hx.lst
    obtain ⟨bs, hb, rfl⟩ := Option.map_eq_some_iff.mp (show (intsD l).map (fun is => D.int is.sum) = some z from hf)
    have e := intsD_ok hb
    subst e
    cases dx.ints
    exact cr_sum hc pins s σ H _ us Q I r ⟨p, bs, rfl, SqL.of hp, q _ H ext_refl (got_int _ fl)⟩
  | tup l =>
    obtain ⟨p, vs, rfl, hp, hz, dx⟩ := hx.tup
    obtain ⟨bs, hb, rfl⟩ := Option.map_eq_some_iff.mp (show (intsD l).map (fun is => D.int is.sum) = some z from hf)
    have e := intsD_ok hb
    subst e
    cases dx.ints
    obtain ⟨its, rv, pl, _⟩ := I.tuple (SqT.of hp)
    rw [Vals.ref1 r]
    exact sum_rawT (I.ok.hd hc) (show s.heap.IsTuple p its.toArray from pl) rv.ints fun h' tk t' hk => ⟨.int _, H, I.kept hk, ⟨_, rfl⟩, q _ H ext_refl (got_int _ fl)⟩
  | _ => cases hf
theorem c_max (hc : X.calm = true) : CallR X (.builtin "max") (Pr1' g (p1 .max) fl) := by
  intro pins s σ H xs us Q I r ⟨x, e, m, d, z, hm, hx, hf, q⟩
  subst e
  cases d with
  | lst l =>
    obtain ⟨p, vs, rfl, hp, hz, dx⟩ := hx.lst
    obtain ⟨bs, hb, hf2⟩ := Option.bind_eq_some_iff.mp (show (intsD l).bind (fun is => match is with
      | [] => none
      | x :: r => some (D.int (mostOf x r))) = some z from hf)
    have e := intsD_ok hb
    subst e
    cases dx.ints
    cases bs with
    | nil => cases hf2
    | cons b bs =>
      cases hf2
      exact cr_max hc pins s σ H _ us Q I r ⟨p, b :: bs, rfl, SqL.of hp, Nat.succ_pos _, fun k h1 h2 => by rw [most_eq h1 h2]; exact q _ H ext_refl (got_int _ fl)⟩
  | tup l =>
    obtain ⟨p, vs, rfl, hp, hz, dx⟩ := hx.tup
    obtain ⟨bs, hb, hf2⟩ := Option.bind_eq_some_iff.mp (show (intsD l).bind (fun is => match is with
      | [] => none
      | x :: r => some (D.int (mostOf x r))) = some z from hf)
    have e := intsD_ok hb
    subst e
    cases dx.ints
    cases bs with
    | nil => cases hf2
    | cons b bs =>
      cases hf2
      obtain ⟨its, rv, pl, _⟩ := I.tuple (SqT.of hp)
      rw [Vals.ref1 r]
      exact max_rawT (I.ok.hd hc) (show s.heap.IsTuple p its.toArray from pl) rv.ints (Nat.succ_pos _) fun h' tk k t' hk h1 h2 => ⟨.int _, H, I.kept hk, ⟨_, rfl⟩, by rw [most_eq h1 h2]; exact q _ H ext_refl (got_int _ fl)⟩
  | _ => cases hf
theorem c_min (hc : X.calm = true) : CallR X (.builtin "min") (Pr1' g (p1 .min) fl) := by
  intro pins s σ H xs us Q I r ⟨x, e, m, d, z, hm, hx, hf, q⟩
  subst e
  cases d with
  | lst l =>
    obtain ⟨p, vs, rfl, hp, hz, dx⟩ := hx.lst
    obtain ⟨bs, hb, hf2⟩ := Option.bind_eq_some_iff.mp (show (intsD l).bind (fun is => match is with
      | [] => none
      | x :: r => some (D.int (leastOf x r))) = some z from hf)
    have e := intsD_ok hb
    subst e
    cases dx.ints
    cases bs with
    | nil => cases hf2
    | cons b bs =>
      cases hf2
      exact cr_min hc pins s σ H _ us Q I r ⟨p, b :: bs, rfl, SqL.of hp, Nat.succ_pos _, fun k h1 h2 => by rw [least_eq h1 h2]; exact q _ H ext_refl (got_int _ fl)⟩
  | tup l =>
    obtain ⟨p, vs, rfl, hp, hz, dx⟩ := hx.tup
    obtain ⟨bs, hb, hf2⟩ := Option.bind_eq_some_iff.mp (show (intsD l).bind (fun is => match is with
      | [] => none
      | x :: r => some (D.int (leastOf x r))) = some z from hf)
    have e := intsD_ok hb
    subst e
    cases dx.ints
    cases bs with
    | nil => cases hf2
    | cons b bs =>
      cases hf2
      obtain ⟨its, rv, pl, _⟩ := I.tuple (SqT.of hp)
      rw [Vals.ref1 r]
      exact min_rawT (I.ok.hd hc) (show s.heap.IsTuple p its.toArray from pl) rv.ints (Nat.succ_pos _) fun h' tk k t' hk h1 h2 => ⟨.int _, H, I.kept hk, ⟨_, rfl⟩, by rw [least_eq h1 h2]; exact q _ H ext_refl (got_int _ fl)⟩
  | _ => cases hf
theorem c_sorted : CallR X (.builtin "sorted") (Pr1' g (p1 .sorted) fl) := by
  intro pins s σ H xs us Q I r ⟨x, e, m, d, z, hm, hx, hf, q⟩
  subst e
  cases d with
  | lst l =>
    obtain ⟨p, vs, rfl, hp, hz, dx⟩ := hx.lst
    obtain ⟨bs, hb, rfl⟩ := Option.map_eq_some_iff.mp (show (intsD l).map (fun is => D.lst ((sortI is).map .int)) = some z from hf)
    have e := intsD_ok hb
    subst e
    cases dx.ints
    refine cr_sortedI pins s σ H _ us Q I r ⟨p, bs, rfl, SqL.of hp, fun ns' p2 h1 h2 hp2 => ?_⟩
    have e2 := sorted_unique (h1.trans (sortI_perm bs).symm) h2 (sortI_sorted bs)
    subst e2
    refine q _ _ (ext_upd hp2) (got_lst hp2 hm ?_ DatL.of_ints fl)
    rw [List.length_map, h1.length_eq]
    rw [List.length_map] at hz
    exact hz
  | _ => cases hf
theorem c_abs : CallR X (.builtin "abs") (Pr1' g (p1 .abs) fl) := by
  intro pins s σ H xs us Q I r ⟨x, e, m, d, z, hm, hx, hf, q⟩
  subst e
  cases d with
  | int i =>
    cases hx.int; cases hf
    exact call_abs pins s σ H _ us Q I r ⟨i, rfl, q _ H ext_refl (got_int _ fl)⟩
  | _ => cases hf
theorem c_int : CallR X (.type "int") (Pr1' g (p1 .int) fl) := by
  intro pins s σ H xs us Q I r ⟨x, e, m, d, z, hm, hx, hf, q⟩
  subst e
  cases d with
  | int i =>
    cases hx.int; cases hf
    exact call_int1 pins s σ H _ us Q I r (.inl ⟨i, rfl, q _ H ext_refl (got_int _ fl)⟩)
  | bl i =>
    cases hx.bl; cases hf
    exact call_int1 pins s σ H _ us Q I r (.inr ⟨i, rfl, q _ H ext_refl (got_int _ fl)⟩)
  | _ => cases hf
theorem c_tuple : CallR X (.type "tuple") (Pr1' g (p1 .tuple) fl) := by
  intro pins s σ H xs us Q I r ⟨x, e, m, d, z, hm, hx, hf, q⟩
  subst e
  cases d with
  | lst l =>
    obtain ⟨p, vs, rfl, hp, hz, dx⟩ := hx.lst
    cases hf
    exact call_tuple_of pins s σ H _ us Q I r ⟨p, vs, rfl, .inl ⟨SqL.of hp, fun p2 hp2 => q _ _ (ext_upd hp2) (got_tup hp2 hm hz dx fl)⟩⟩
  | tup l =>
    obtain ⟨p, vs, rfl, hp, hz, dx⟩ := hx.tup
    cases hf
    exact call_tuple_of pins s σ H _ us Q I r ⟨p, vs, rfl, .inr ⟨SqT.of hp, q _ _ ext_refl (Got.flag (hx.dat fun l q => by cases q) (fun l q => by cases q) fl)⟩⟩
  | _ => cases hf
theorem c_list : CallR X (.type "list") (Pr1' g (p1 .list) fl) := by
  intro pins s σ H xs us Q I r ⟨x, e, m, d, z, hm, hx, hf, q⟩
  subst e
  cases d with
  | lst l =>
    obtain ⟨p, vs, rfl, hp, hz, dx⟩ := hx.lst
    cases hf
    exact call_list_of pins s σ H _ us Q I r ⟨p, vs, rfl, .inl (SqL.of hp), fun p2 hp2 => q _ _ (ext_upd hp2) (got_lst hp2 hm hz dx fl)⟩
  | tup l =>
    obtain ⟨p, vs, rfl, hp, hz, dx⟩ := hx.tup
    cases hf
    exact call_list_of pins s σ H _ us Q I r ⟨p, vs, rfl, .inr (SqT.of hp), fun p2 hp2 => q _ _ (ext_upd hp2) (got_lst hp2 hm hz dx fl)⟩
  | _ => cases hf
theorem c_neg : UnR X (unaryOp .USub) (Pr1 g (p1 .neg) fl) := by
  intro pins s σ H x u Q I r ⟨m, d, z, hm, hx, hf, q⟩
  cases d with
  | int i =>
    cases hx.int; cases hf
    exact un_neg pins s σ H _ u Q I r ⟨i, rfl, q _ H ext_refl (got_int _ fl)⟩
  | _ => cases hf
theorem c_max2 (hc : X.calm = true) : CallR X (.builtin "max") (Pr2' g (p22 .max) fl) := by
  intro pins s σ H xs us Q I r ⟨x, y, e, m, d, d', z, hm, hx, hy, hf, q⟩
  subst e
  cases d with
  | int i =>
    cases d' with
    | int j =>
      cases hx.int; cases hy.int; cases hf
      exact call_max2 hc pins s σ H _ us Q I r ⟨i, j, rfl, q _ H ext_refl (got_int _ fl)⟩
    | _ => cases hf
  | _ => cases hf
theorem c_min2 (hc : X.calm = true) : CallR X (.builtin "min") (Pr2' g (p22 .min) fl) := by
  intro pins s σ H xs us Q I r ⟨x, y, e, m, d, d', z, hm, hx, hy, hf, q⟩
  subst e
  cases d with
  | int i =>
    cases d' with
    | int j =>
      cases hx.int; cases hy.int; cases hf
      exact call_min2 hc pins s σ H _ us Q I r ⟨i, j, rfl, q _ H ext_refl (got_int _ fl)⟩
    | _ => cases hf
  | _ => cases hf
end
end Pv

namespace Pv
open PySem PySem.Spec PyProof.Rows L2

/-! ## 7. expressions -/
section
variable {Φ : Orc} {g : Gm} {W : WX} {X : Cx} {κ : Kp} {O : Addr → Prop} {σ : L2.St} {H : Hp} {e : Sl}
theorem Rel.nomask (R : Rel g κ O e σ H) : ∀ a, κ.mk' O a → H a ≠ none := fun a z q => by
  obtain ⟨vs, h⟩ := R.masked z
  rw [q] at h; cases h
theorem Rel.noO (R : Rel g κ O e σ H) : ∀ a, O a → H a ≠ none := fun a z => R.nomask a (.inr z)
theorem go_1 (R : Rel g κ O e σ H) {a : Ag} {f : D → Option D} {K : D → Sl → Prop} {Q1 : V → Hp → Prop} (h : Run g κ O W σ H ((evG Φ a e).bind fun x e1 => (opt (vget e1 x) e1).bind fun d e1 => opt (f d) e1) K)
    (k : ∀ x H1 e1 d z, Rel g κ O e1 σ H1 → Keep O H H1 → DatW g (κ.mk' O) H1 x d → f d = some z → K z e1 → Q1 x H1) : tG Φ g W a σ H Q1 := by
  refine go_g R (Run.imp (Run.bind h) fun x e1 _ k1 v H1 R1 K1 V1 => ?_)
  obtain ⟨d, hd, h2⟩ := Run.optB (k1 H1 K1)
  obtain ⟨z, hz, h3⟩ := Run.opt h2
  exact k v H1 e1 d z R1 K1 (V1.get R1 hd).1 hz h3
theorem go_2 (R : Rel g κ O e σ H) {a b : Ag} {f : D → D → Option D} {K : D → Sl → Prop} {Q2 : V → V → Hp → Prop}
    (h : Run g κ O W σ H ((evG Φ a e).bind fun x e1 => (evG Φ b e1).bind fun y e2 => (opt (vget e2 x) e2).bind fun d e2 => (opt (vget e2 y) e2).bind fun d' e2 => opt (f d d') e2) K)
    (k : ∀ x y H2 e2 d d' z, Rel g κ O e2 σ H2 → Keep O H H2 → DatW g (κ.mk' O) H2 x d → DatW g (κ.mk' O) H2 y d' → f d d' = some z → K z e2 → Q2 x y H2) :
    tG Φ g W a σ H fun x H1 => tG Φ g W b σ H1 fun y H2 => Q2 x y H2 := by
  refine go_g R (Run.imp (Run.bind h) fun x e1 _ k1 v H1 R1 K1 V1 => ?_)
  refine go_g R1 (Run.imp (Run.bind (k1 H1 K1)) fun y e2 _ k2 w H2 R2 K2 V2 => ?_)
  obtain ⟨d, hd, h2⟩ := Run.optB (k2 H2 K2)
  obtain ⟨d', hd', h3⟩ := Run.optB h2
  obtain ⟨z, hz, h4⟩ := Run.opt h3
  exact k v w H2 e2 d d' z R2 (K1.trans K2) ((V1.keep K2).get R2 hd).1 (V2.get R2 hd').1 hz h4

/-! ### names, constants -/
theorem de_var (i : Nat) {x : Str} {pos : Pos} (hN : X.N[i]? = some x := by rfl) (hv : Vis X.env.scope x := by first | exact Or.inl rfl | exact Or.inr (Or.inl rfl) | exact Or.inr (Or.inr rfl)) (hd : (x == ("__debug__" : Str)) = false := by decide)
    (hcd : (x == ("__classdict__" : Str)) = false := by decide) : DE Φ g W X (.Name x pos) (.var i) := by
  refine PE.from (pe_var (i := i) hN hv hd hcd) fun σ H Q ⟨κ, O, e, R, h⟩ => ?_
  have h' : Run g κ O W σ H (match e[i]? with
    | some (.sh d) => Pv.R.ok d e
    | _ => Pv.R.bad) fun d e' => ∀ v H', Rel g κ O e' σ H' → Keep O H H' → GotX g κ O e' σ H H' v d false → Q v H' := h
  cases z : e[i]? with
  | none => rw [z] at h'; exact h'.elim
  | some u =>
    rw [z] at h'
    cases u with
    | sh d =>
      obtain ⟨v, a, b⟩ := R.sh i d z
      exact ⟨v, a, h' v H R (Keep.refl _ _) ⟨b, fun z => by cases z⟩⟩
    | _ => exact h'.elim
theorem dg_b (i : Nat) {x : Str} {pos : Pos} (hN : X.N[i]? = some x := by rfl) (hv : Vis X.env.scope x := by first | exact Or.inl rfl | exact Or.inr (Or.inl rfl) | exact Or.inr (Or.inr rfl)) (hd : (x == ("__debug__" : Str)) = false := by decide)
    (hcd : (x == ("__classdict__" : Str)) = false := by decide) : DG Φ g W X (.Name x pos) (.b i) := pe_var (i := i) hN hv hd hcd
theorem dg_c {ex : Expr} {c : C} (h : DE Φ g W X ex c) : DG Φ g W X ex (.c c) := h
theorem con_of {d : D} {v : V} {Q : VK} {fl : Bool} (dat : ∀ m H, Dat g m H v d) (n : ∀ l, d ≠ .lst l) (h : ∃ κ O e, Rel g κ O e σ H ∧ Run g κ O W σ H (Pv.R.ok d e) fun d e' => ∀ v H', Rel g κ O e' σ H' → Keep O H H' → GotX g κ O e' σ H H' v d fl → Q v H') : Q v H := by
  obtain ⟨κ, O, e, R, h⟩ := h
  exact h v H R (Keep.refl _ _) (GotX.flag (dat _ _) n fl)
theorem de_int {i : Int} {j pos} : DE Φ g W X (.Constant (.int i) j pos) (.con (.int i)) := PE.from pe_int fun σ H Q h => con_of (fun _ _ => .int i) (fun l q => by cases q) h
theorem de_bl {i : Bool} {j pos} : DE Φ g W X (.Constant (.bool i) j pos) (.con (.bl i)) := PE.from pe_bl fun σ H Q h => con_of (fun _ _ => .bl i) (fun l q => by cases q) h
theorem de_non {j pos} : DE Φ g W X (.Constant .none j pos) (.con .non) := PE.from pe_non fun σ H Q h => con_of (fun _ _ => .non) (fun l q => by cases q) h
theorem de_str {x : Str} {j pos} (hx : x.length ≤ sizeLine := by decide) : DE Φ g W X (.Constant (.str x) j pos) (.con (.str x)) := PE.from pe_str fun σ H Q h => con_of (fun _ _ => .str x hx) (fun l q => by cases q) h
/-- a constant of the module -/
theorem de_gint {x : Str} {i : Int} {t : Tok} {pos : Pos} (hm : X.mg x = some (.int i t)) (hg : Gl X x := by rfl) (hd : (x == ("__debug__" : Str)) = false := by decide) : DE Φ g W X (.Name x pos) (.con (.int i)) :=
  PE.from (pe_glob (v := .int i) hg hm ⟨t, rfl⟩ hd) fun σ H Q h => con_of (fun _ _ => .int i) (fun l q => by cases q) h
theorem de_gstr {x : Str} {i : Str} {t : Tok} {pos : Pos} (hm : X.mg x = some (.str i t)) (hx : i.length ≤ sizeLine := by decide) (hg : Gl X x := by rfl) (hd : (x == ("__debug__" : Str)) = false := by decide) : DE Φ g W X (.Name x pos) (.con (.str i)) :=
  PE.from (pe_glob (v := .str i) hg hm ⟨t, rfl⟩ hd) fun σ H Q h => con_of (fun _ _ => .str i hx) (fun l q => by cases q) h
/-- a def of the module as a value -/
theorem de_gfn {x : Str} (k : Nat) {pos : Pos} (hm : X.mg x = some (.ref (g.fa k))) (hg : Gl X x := by rfl) (hd : (x == ("__debug__" : Str)) = false := by decide) : DE Φ g W X (.Name x pos) (.con (.fn k)) :=
  PE.from (pe_glob (v := .ref (g.fa k)) hg hm rfl hd) fun σ H Q h => con_of (fun _ _ => .fn k) (fun l q => by cases q) h

/-! ### arguments, displays -/
theorem da_nil : DA Φ g W X [] .nil := pa_nil
theorem da_cons {ex : Expr} {es : List Expr} {a : Ag} {r : As} (h : DG Φ g W X ex a) (hr : DA Φ g W X es r) (hs : starEach (ex :: es) X.env = (false, eval ex X.env) :: starEach es X.env := by rfl) : DA Φ g W X (ex :: es) (.cons a r) := pa_cons h hr hs
theorem vrs_get (R : Rel g κ O e σ H) : ∀ {vs : List V} {xs : List Vr} {ds : List D}, VrsOk g κ O σ H vs xs → vgets e xs = some ds → xs.any (isOw e) = false → DatL g (κ.mk' O) H vs ds
  | _, _, ds, .nil, q, _ => by cases q; exact .nil
  | _, _, ds, .cons (x := x) (xs := xs) a t, q, n => by
    have q' : (match vget e x, vgets e xs with
      | some d, some ds => some (d :: ds)
      | _, _ => none) = some ds := q
    rw [List.any_cons, Bool.or_eq_false_iff] at n
    cases h1 : vget e x with
    | none => rw [h1] at q'; cases q'
    | some d =>
      cases h2 : vgets e xs with
      | none => rw [h1, h2] at q'; cases q'
      | some ds' =>
        rw [h1, h2] at q'
        cases q'
        exact .cons ((a.get R h1).2 n.1) (vrs_get R t h2 n.2)
theorem de_tup {es : List Expr} {as : As} {x1} {pos : Pos} (h : DA Φ g W X es as) : DE Φ g W X (.Tuple es x1 pos) (.tup as) := by
  refine PE.from (pe_tup (x1 := x1) h) fun σ H Q ⟨κ, O, e, R, h⟩ => ?_
  refine go_as R (Run.imp (Run.bind h) fun xs e1 _ k1 vs H1 R1 K1 V1 => ?_)
  obtain ⟨ds, hd, h2⟩ := Run.optB (k1 H1 K1)
  obtain ⟨hc, h3⟩ := Run.iteN h2
  simp only [Bool.or_eq_true, decide_eq_true_eq, not_or, Nat.not_lt] at hc
  have dl := vrs_get R1 V1 hd (by simpa using hc.1)
  have hz := datL_len dl hc.2
  exact ⟨hz, fun p hp => h3 _ _ (R1.newR hp) (K1.trans (Keep.new hp)) (GotX.back ((got_tup hp R1.nomask hz dl _).toX R1 (ext_upd hp)) K1 R1.noO)⟩
theorem de_lst {es : List Expr} {as : As} {pos : Pos} (h : DA Φ g W X es as) : DE Φ g W X (.List es pos) (.lst as) := by
  refine PE.from (pe_lst h) fun σ H Q ⟨κ, O, e, R, h⟩ => ?_
  refine go_as R (Run.imp (Run.bind h) fun xs e1 _ k1 vs H1 R1 K1 V1 => ?_)
  obtain ⟨ds, hd, h2⟩ := Run.optB (k1 H1 K1)
  obtain ⟨hc, h3⟩ := Run.iteN h2
  simp only [Bool.or_eq_true, decide_eq_true_eq, not_or, Nat.not_lt] at hc
  have dl := vrs_get R1 V1 hd (by simpa using hc.1)
  have hz := datL_len dl hc.2
  exact ⟨hz, fun p hp => h3 _ _ (R1.newR hp) (K1.trans (Keep.new hp)) (GotX.back ((got_lst hp R1.nomask hz dl _).toX R1 (ext_upd hp)) K1 R1.noO)⟩

/-! ### operations -/
theorem pr2_of {f : D → D → Option D} {fl : Bool} {Q : VK} {x y : V} {H2 : Hp} {e2 : Sl} {d d' z : D} (R2 : Rel g κ O e2 σ H2) (K2 : Keep O H H2) (hx : DatW g (κ.mk' O) H2 x d) (hy : DatW g (κ.mk' O) H2 y d') (hz : f d d' = some z)
    (k : ∀ v H', Rel g κ O e2 σ H' → Keep O H H' → GotX g κ O e2 σ H H' v z fl → Q v H') : Pr2 g f fl x y H2 Q :=
  ⟨κ.mk' O, d, d', z, R2.nomask, hx, hy, hz, fun v H' ext G => k v H' (R2.grow ext) (K2.trans fun a o _ q => ext a o q) (GotX.back (G.toX R2 ext) K2 R2.noO)⟩
theorem pr1_of {f : D → Option D} {fl : Bool} {Q : VK} {x : V} {H2 : Hp} {e2 : Sl} {d z : D} (R2 : Rel g κ O e2 σ H2) (K2 : Keep O H H2) (hx : DatW g (κ.mk' O) H2 x d) (hz : f d = some z)
    (k : ∀ v H', Rel g κ O e2 σ H' → Keep O H H' → GotX g κ O e2 σ H H' v z fl → Q v H') : Pr1 g f fl x H2 Q :=
  ⟨κ.mk' O, d, z, R2.nomask, hx, hz, fun v H' ext G => k v H' (R2.grow ext) (K2.trans fun a o _ q => ext a o q) (GotX.back (G.toX R2 ext) K2 R2.noO)⟩
variable {p : P2} {a b : Ag} {ea eb : Expr} {pos : Pos}
theorem de_bin {op : Operator} (ho : OpR X (binaryOp op) (Pr2 g (p2 p) (isF (.op2 p a b)))) (ha : DG Φ g W X ea a) (hb : DG Φ g W X eb b) : DE Φ g W X (.BinOp ea op eb pos) (.op2 p a b) := by
  refine PE.from (pe_op ho ha hb) fun σ H Q ⟨κ, O, e, R, h⟩ => ?_
  exact go_2 (f := p2 p) R h fun x y H2 e2 d d' z R2 K2 hx hy hz k => pr2_of R2 K2 hx hy hz k
theorem de_cmp {op : CmpOp} (ho : OpR X (compareOp op) (Pr2 g (p2 p) (isF (.op2 p a b)))) (ha : DG Φ g W X ea a) (hb : DG Φ g W X eb b) (hm : behindInMarks op eb = false := by first | exact nomark _ | rfl) : DE Φ g W X (.Compare ea [op] [eb] pos) (.op2 p a b) := by
  refine PE.from (pe_cmpR ho ha hb hm) fun σ H Q ⟨κ, O, e, R, h⟩ => ?_
  exact go_2 (f := p2 p) R h fun x y H2 e2 d d' z R2 K2 hx hy hz k => pr2_of R2 K2 hx hy hz k
theorem bind_ok {α β : Type} {r : Pv.R α} {f : α → Sl → Pv.R β} {b : β} {e' : Sl} (h : r.bind f = .ok b e') : ∃ a e1, r = .ok a e1 ∧ f a e1 = .ok b e' := by
  cases r with
  | ok a e1 => exact ⟨a, e1, rfl, h⟩
  | ex _ _ _ => cases h
  | bad => cases h
theorem opt_ok {α : Type} {o : Option α} {e e' : Sl} {a : α} (h : opt o e = .ok a e') : o = some a ∧ e = e' := by
  cases o with
  | none => cases h
  | some b => cases h; exact ⟨rfl, rfl⟩
def isCmp : P2 → Bool
  | .eq | .ne | .lt | .le | .gt | .ge | .isin | .notin => true
  | _ => false
theorem p2_bl (hp : isCmp p = true) {d d' z : D} (h : p2 p d d' = some z) : ∃ k, z = .bl k := by
  cases p with
  | eq => obtain ⟨_, rfl⟩ := ite_some h; exact ⟨_, rfl⟩
  | ne => obtain ⟨_, rfl⟩ := ite_some h; exact ⟨_, rfl⟩
  | lt =>
    cases d with
    | int i => cases d' <;> first | cases h; exact ⟨_, rfl⟩ | cases h
    | str i => cases d' <;> first | cases h; exact ⟨_, rfl⟩ | cases h
    | tup a =>
      cases d' with
      | tup b =>
        have h' : (match intsD a, intsD b with
          | some x, some y => some (D.bl (HT.lexLt x y))
          | _, _ => none) = some z := h
        split at h'
        · cases h'; exact ⟨_, rfl⟩
        · cases h'
      | _ => cases h
    | _ => cases d' <;> cases h
  | le => cases d <;> cases d' <;> first | (cases h; exact ⟨_, rfl⟩) | cases h
  | gt => cases d <;> cases d' <;> first | (cases h; exact ⟨_, rfl⟩) | cases h
  | ge => cases d <;> cases d' <;> first | (cases h; exact ⟨_, rfl⟩) | cases h
  | isin =>
    cases d' with
    | tup l => obtain ⟨_, rfl⟩ := ite_some h; exact ⟨_, rfl⟩
    | lst l => obtain ⟨_, rfl⟩ := ite_some h; exact ⟨_, rfl⟩
    | str l => cases d <;> first | (cases h; exact ⟨_, rfl⟩) | cases h
    | _ => cases h
  | notin =>
    cases d' with
    | tup l => obtain ⟨_, rfl⟩ := ite_some h; exact ⟨_, rfl⟩
    | lst l => obtain ⟨_, rfl⟩ := ite_some h; exact ⟨_, rfl⟩
    | str l => cases d <;> first | (cases h; exact ⟨_, rfl⟩) | cases h
    | _ => cases h
  | _ => cases hp
/-- a test by its value, where that is a bool -/
theorem ts_bl {c : C} {Q : Bool → Hp → Prop} (hb : ∀ e d e1, ev Φ c e = .ok d e1 → ∃ k, d = .bl k) (h : tTs Φ g W c σ H Q) : tEv Φ g W c σ H fun x H' => ∃ k, x = .bl k ∧ Q k H' := by
  obtain ⟨κ, O, e, R, h⟩ := h
  refine ⟨κ, O, e, R, Run.imp (Run.bind h) fun d e1 hd k1 v H1 R1 K1 G => ?_⟩
  obtain ⟨k, rfl⟩ := hb e d e1 hd
  have h3 := k1 H1 K1 H1 R1 K1
  cases G.dat
  exact ⟨k, rfl, h3⟩
theorem dt_cmp {op : CmpOp} (ho : OpR X (compareOp op) (Pr2 g (p2 p) (isF (.op2 p a b)))) (ha : DG Φ g W X ea a) (hb : DG Φ g W X eb b) (hp : isCmp p = true := by rfl) (hm : behindInMarks op eb = false := by first | exact nomark _ | rfl) : DT Φ g W X (.Compare ea [op] [eb] pos) (.op2 p a b) := by
  refine PT.from (pt_cmpR ho ha hb hm) fun σ H Q h => ?_
  obtain ⟨κ, O, e, R, h⟩ := ts_bl  (fun e d e1 hd => by
    obtain ⟨x, e2, _, hd⟩ := bind_ok hd
    obtain ⟨y, e3, _, hd⟩ := bind_ok hd
    obtain ⟨d1, e4, _, hd⟩ := bind_ok hd
    obtain ⟨d2, e5, _, hd⟩ := bind_ok hd
    exact p2_bl hp (opt_ok hd).1) h
  exact go_2 (f := p2 p) R h fun x y H2 e2 d d' z R2 K2 hx hy hz k => pr2_of R2 K2 hx hy hz k
theorem tru_of {m : Addr → Prop} {v : V} {d : D} {k : Bool} {K : PySem.W.Frag} (h : Dat g m H v d) (t : truth d = some k) : TruV K v H k := by
  cases d with
  | non => cases h; cases t; rfl
  | bl b => cases h; cases t; rfl
  | int i => cases h; cases t; rfl
  | str y => cases h with | str _ q => cases t; exact ⟨q, rfl⟩
  | tup l =>
    cases h with
    | tup e n z dl =>
      cases t
      refine .inr (.inl ⟨_, SqT.of e, ?_⟩)
      cases dl <;> rfl
  | lst l =>
    cases h with
    | lst e n z dl =>
      cases t
      refine .inl ⟨_, SqL.of e, ?_⟩
      cases dl <;> rfl
  | _ => cases t
theorem dt_of {ex : Expr} {c : C} (h : DE Φ g W X ex c) (he : ∀ whole, isTrue ex X.env whole = (do let v ← whole; standAt ex.pos; holding [v] (truthy v)) := by intro _; rfl) : DT Φ g W X ex c := by
  refine PT.from (pt_truth h he) fun σ H Q ⟨κ, O, e, R, h⟩ => ?_
  refine ⟨κ, O, e, R, Run.imp (Run.bind h) fun d e1 hd k1 v H1 R1 K1 G => ?_⟩
  obtain ⟨k, hk, h3⟩ := Run.opt (k1 H1 K1)
  exact ⟨k, tru_of G.dat hk, h3 H1 R1 K1⟩
/-- and, or, not as tests -/
theorem dt_one {ex : Expr} {c : C} {op : BoolOp} (h : DT Φ g W X ex c) : PW X (.BoolOp op [ex] pos) (tTs Φ g W c) := by
  cases op with
  | And => exact pw_and1 h
  | Or => exact pw_or1 h
theorem Run.bindI {α β : Type} {r : Pv.R α} {f : α → Sl → Pv.R β} {k : β → Sl → Prop} (h : Run g κ O W σ H r fun a e => ∀ H1, Keep O H H1 → Run g κ O W σ H1 (f a e) k) : Run g κ O W σ H (r.bind f) k := by
  cases r with
  | bad => exact h
  | ex c p e => exact h
  | ok a e => exact h H (Keep.refl _ _)
theorem Run.bindT {α β γ : Type} {r : Pv.R α} {f : α → Sl → Pv.R β} {h : β → Sl → Pv.R γ} : ((r.bind f).bind h) = r.bind fun a e => (f a e).bind h := by cases r <;> rfl
/-- a test, then by its answer -/
theorem go_t (R : Rel g κ O e σ H) {α : Type} {c : C} {r : D → Bool → Sl → Pv.R α} {K : α → Sl → Prop} {Q : Bool → Hp → Prop} (h : Run g κ O W σ H ((ev Φ c e).bind fun d e1 => (opt (truth d) e1).bind fun k e1 => r d k e1) K)
    (q : ∀ d k e1 H1, truth d = some k → Rel g κ O e1 σ H1 → Keep O H H1 → Run g κ O W σ H1 (r d k e1) K → Q k H1) : tTs Φ g W c σ H Q := by
  refine ⟨κ, O, e, R, Run.bindI (Run.imp (Run.bind h) fun d e1 _ k1 H1 K1 => ?_)⟩
  obtain ⟨k, hk, _⟩ := Run.optB (k1 H1 K1)
  rw [hk]
  intro H2 R2 K2
  obtain ⟨k', hk', h3⟩ := Run.optB (k1 H2 K2)
  rw [hk] at hk'
  cases hk'
  exact q d k e1 H2 hk R2 K2 h3
theorem go_ts (R : Rel g κ O e σ H) {H1 : Hp} (K1 : Keep O H H1) (R1 : Rel g κ O e σ H1) {c : C} {Q : Bool → Hp → Prop} (h : Run g κ O W σ H1 ((ev Φ c e).bind fun d e1 => opt (truth d) e1) fun b e' => ∀ H', Rel g κ O e' σ H' → Keep O H H' → Q b H') : tTs Φ g W c σ H1 Q :=
  ⟨κ, O, e, R1, Run.imp h fun b e' _ k H' R' K' => k H' R' (K1.trans K')⟩
theorem dw_and {ex : Expr} {c c' : C} {ey : Expr} {rest : List Expr} (h : DT Φ g W X ex c) (h2 : PW X (.BoolOp .And (ey :: rest) pos) (tTs Φ g W c')) : PW X (.BoolOp .And (ex :: ey :: rest) pos) (tTs Φ g W (.and c c')) := by
  refine ⟨fun wh pins s σ H Q I ⟨κ, O, e, R, h3⟩ => (pw_and h h2).run wh pins s σ H Q I ?_⟩
  have h4 : Run g κ O W σ H (((ev Φ c e).bind fun d e1 => (opt (truth d) e1).bind fun k e1 => if k = true then ev Φ c' e1 else .ok d e1).bind fun d e1 => opt (truth d) e1) _ := h3
  simp only [Run.bindT] at h4
  refine go_t R h4 fun d k e1 H1 hk R1 K1 h5 => ?_
  cases k with
  | true => exact iteT ⟨κ, O, e1, R1, Run.imp h5 fun b e' _ k H' R' K' => k H' R' (K1.trans K')⟩
  | false =>
    have h6 : Run g κ O W σ H1 (opt (truth d) e1) _ := h5
    rw [hk] at h6
    exact iteF (h6 H1 R1 K1)
theorem dw_or {ex : Expr} {c c' : C} {ey : Expr} {rest : List Expr} (h : DT Φ g W X ex c) (h2 : PW X (.BoolOp .Or (ey :: rest) pos) (tTs Φ g W c')) : PW X (.BoolOp .Or (ex :: ey :: rest) pos) (tTs Φ g W (.or c c')) := by
  refine ⟨fun wh pins s σ H Q I ⟨κ, O, e, R, h3⟩ => (pw_or h h2).run wh pins s σ H Q I ?_⟩
  have h4 : Run g κ O W σ H (((ev Φ c e).bind fun d e1 => (opt (truth d) e1).bind fun k e1 => if k = true then .ok d e1 else ev Φ c' e1).bind fun d e1 => opt (truth d) e1) _ := h3
  simp only [Run.bindT] at h4
  refine go_t R h4 fun d k e1 H1 hk R1 K1 h5 => ?_
  cases k with
  | true =>
    have h6 : Run g κ O W σ H1 (opt (truth d) e1) _ := h5
    rw [hk] at h6
    exact iteT (h6 H1 R1 K1)
  | false => exact iteF ⟨κ, O, e1, R1, Run.imp h5 fun b e' _ k H' R' K' => k H' R' (K1.trans K')⟩
theorem dt_w {ex : Expr} {c : C} (h : PW X ex (tTs Φ g W c)) : DT Φ g W X ex c := h.pt
theorem dt_not {ex : Expr} {c : C} (h : DT Φ g W X ex c) : DT Φ g W X (.UnaryOp .Not ex pos) (.op1 .not (.c c)) := by
  refine PT.from (pt_not h) fun σ H Q ⟨κ, O, e, R, h3⟩ => ?_
  have h4 : Run g κ O W σ H ((((ev Φ c e).bind fun d e1 => Pv.R.ok (Sum.inl d : Vr) e1).bind fun x e1 => (opt (vget e1 x) e1).bind fun d e1 => opt ((truth d).map fun b => D.bl (!b)) e1).bind fun d e1 => opt (truth d) e1) fun b e' => ∀ H', Rel g κ O e' σ H' → Keep O H H' → Q b H' := h3
  simp only [Run.bindT] at h4
  refine ⟨κ, O, e, R, Run.bindI (Run.imp (Run.bind h4) fun d e1 _ k1 H1 K1 => ?_)⟩
  have h5 : Run g κ O W σ H1 ((opt ((truth d).map fun b => D.bl (!b)) e1).bind fun d e1 => opt (truth d) e1) _ := k1 H1 K1
  cases t : truth d with
  | none => rw [t] at h5; exact h5.elim
  | some k =>
    rw [t] at h5
    exact fun H2 R2 K2 => h5 H2 R2 K2
/-! ### and, or, not, if as values -/
theorem de_one {ex : Expr} {c : C} {op : BoolOp} (h : DE Φ g W X ex c) : DE Φ g W X (.BoolOp op [ex] pos) c := pe_one h
theorem de_and {ex : Expr} {c c' : C} {ey : Expr} {rest : List Expr} (h : DE Φ g W X ex c) (h2 : DE Φ g W X (.BoolOp .And (ey :: rest) pos) c') : DE Φ g W X (.BoolOp .And (ex :: ey :: rest) pos) (.and c c') := by
  refine PE.from (pe_andT h h2) fun σ H Q ⟨κ, O, e, R, h3⟩ => ?_
  refine ⟨κ, O, e, R, Run.imp (Run.bind h3) fun d e1 _ k1 v H1 R1 K1 G => ?_⟩
  obtain ⟨k, hk, h4⟩ := Run.optB (k1 H1 K1)
  refine ⟨k, tru_of G.dat hk, ?_⟩
  cases k with
  | true => exact iteT ⟨κ, O, e1, R1, Run.imp h4 fun d2 e2 _ k2 w H2 R2 K2 G2 => k2 w H2 R2 (K1.trans K2) ⟨G2.dat, fun z => by cases z⟩⟩
  | false => exact iteF (h4 v H1 R1 K1 ⟨G.dat, fun z => by cases z⟩)
theorem de_or {ex : Expr} {c c' : C} {ey : Expr} {rest : List Expr} (h : DE Φ g W X ex c) (h2 : DE Φ g W X (.BoolOp .Or (ey :: rest) pos) c') : DE Φ g W X (.BoolOp .Or (ex :: ey :: rest) pos) (.or c c') := by
  refine PE.from (pe_orT h h2) fun σ H Q ⟨κ, O, e, R, h3⟩ => ?_
  refine ⟨κ, O, e, R, Run.imp (Run.bind h3) fun d e1 _ k1 v H1 R1 K1 G => ?_⟩
  obtain ⟨k, hk, h4⟩ := Run.optB (k1 H1 K1)
  refine ⟨k, tru_of G.dat hk, ?_⟩
  cases k with
  | true => exact iteT (h4 v H1 R1 K1 ⟨G.dat, fun z => G.new (Bool.and_eq_true_iff.mp z).1⟩)
  | false => exact iteF ⟨κ, O, e1, R1, Run.imp h4 fun d2 e2 _ k2 w H2 R2 K2 G2 => k2 w H2 R2 (K1.trans K2) (GotX.back ⟨G2.dat, fun z => G2.new (Bool.and_eq_true_iff.mp z).2⟩ K1 R1.noO)⟩
theorem de_not {ex : Expr} {c : C} (h : DE Φ g W X ex c) : DE Φ g W X (.UnaryOp .Not ex pos) (.op1 .not (.c c)) := by
  refine PE.from (pe_notT h) fun σ H Q ⟨κ, O, e, R, h3⟩ => ?_
  have h4 : Run g κ O W σ H (((ev Φ c e).bind fun d e1 => Pv.R.ok (Sum.inl d : Vr) e1).bind fun x e1 => (opt (vget e1 x) e1).bind fun d e1 => opt ((truth d).map fun b => D.bl (!b)) e1) fun d e' => ∀ v H', Rel g κ O e' σ H' → Keep O H H' → GotX g κ O e' σ H H' v d false → Q v H' := h3
  simp only [Run.bindT] at h4
  refine ⟨κ, O, e, R, Run.imp (Run.bind h4) fun d e1 _ k1 v H1 R1 K1 G => ?_⟩
  have h5 : Run g κ O W σ H1 (opt ((truth d).map fun b => D.bl (!b)) e1) _ := k1 H1 K1
  cases t : truth d with
  | none => rw [t] at h5; exact h5.elim
  | some k =>
    rw [t] at h5
    exact ⟨k, tru_of G.dat t, h5 _ H1 R1 K1 (GotX.flag (.bl _) (fun l q => by cases q) _)⟩
theorem de_ife {et ex ey : Expr} {t c c' : C} (ht : DT Φ g W X et t) (h : DE Φ g W X ex c) (h2 : DE Φ g W X ey c') : DE Φ g W X (.IfExp et ex ey pos) (.ife t c c') := by
  refine PE.from (pe_ifExp ht h h2) fun σ H Q ⟨κ, O, e, R, h3⟩ => ?_
  refine go_t R h3 fun d k e1 H1 hk R1 K1 h4 => ?_
  cases k with
  | true => exact iteT ⟨κ, O, e1, R1, Run.imp h4 fun d2 e2 _ k2 w H2 R2 K2 G2 => k2 w H2 R2 (K1.trans K2) ⟨G2.dat, fun z => by cases z⟩⟩
  | false => exact iteF ⟨κ, O, e1, R1, Run.imp h4 fun d2 e2 _ k2 w H2 R2 K2 G2 => k2 w H2 R2 (K1.trans K2) ⟨G2.dat, fun z => by cases z⟩⟩

/-! ### subscripts, slices -/
theorem de_ix (hK : X.K = g.K) (ha : DG Φ g W X ea a) (hb : DG Φ g W X eb b) (hs : PlainIx eb := by intro _ _; rfl) : DE Φ g W X (.Subscript ea eb pos) (.op2 .ix a b) := by
  refine PE.from (pe_ix (r_ix hK) ha hb hs) fun σ H Q ⟨κ, O, e, R, h⟩ => ?_
  exact go_2 (f := pIx) R h fun x y H2 e2 d d' z R2 K2 hx hy hz k => pr2_of R2 K2 hx hy hz k
/-! ### built-ins -/
theorem de_b1 {id : String} {p : P1} {x : Str} {ps : Pos} (hc : CallR X (.builtin id) (Pr1' g (p1 p) (isF (.op1 p a)))) (hm : X.mg x = none) (hv : bootBuiltins x = some (.builtin id)) (ha : DG Φ g W X ea a) (hg : Gl X x := by rfl)
    (hn : x ≠ "__name__" := by decide) (hdb : (x == ("__debug__" : Str)) = false := by decide) (hs : starEach [ea] X.env = (false, eval ea X.env) :: starEach [] X.env := by rfl) (hpl : (backTo pos (starEach [] X.env)).any (·.1) = false := by rfl) :
    DE Φ g W X (.Call (.Name x ps) [ea] [] pos) (.op1 p a) := by
  refine PE.from (pe_callB hc hg hm hv (pa_cons ha pa_nil hs) hn hdb hs hpl) fun σ H Q ⟨κ, O, e, R, h⟩ => ?_
  exact go_1 (f := p1 p) R h fun x H1 e1 d z R1 K1 hx hz k => ⟨x, rfl, pr1_of R1 K1 hx hz k⟩
theorem de_t1 {id : String} {p : P1} {x : Str} {ps : Pos} (hc : CallR X (.type id) (Pr1' g (p1 p) (isF (.op1 p a)))) (hm : X.mg x = none) (hv : bootBuiltins x = some (.type id)) (ha : DG Φ g W X ea a) (hg : Gl X x := by rfl)
    (hn : x ≠ "__name__" := by decide) (hdb : (x == ("__debug__" : Str)) = false := by decide) (hs : starEach [ea] X.env = (false, eval ea X.env) :: starEach [] X.env := by rfl) (hpl : (backTo pos (starEach [] X.env)).any (·.1) = false := by rfl) :
    DE Φ g W X (.Call (.Name x ps) [ea] [] pos) (.op1 p a) := by
  refine PE.from (pe_callTy hc hg hm hv (pa_cons ha pa_nil hs) hn hdb hs hpl) fun σ H Q ⟨κ, O, e, R, h⟩ => ?_
  exact go_1 (f := p1 p) R h fun x H1 e1 d z R1 K1 hx hz k => ⟨x, rfl, pr1_of R1 K1 hx hz k⟩
theorem de_un {op : UnaryOp} {p : P1} (hc : UnR X (unaryOp op) (Pr1 g (p1 p) (isF (.op1 p a)))) (ha : DG Φ g W X ea a) : DE Φ g W X (.UnaryOp op ea pos) (.op1 p a) := by
  refine PE.from (pe_un hc ha) fun σ H Q ⟨κ, O, e, R, h⟩ => ?_
  exact go_1 (f := p1 p) R h fun x H1 e1 d z R1 K1 hx hz k => pr1_of R1 K1 hx hz k
theorem de_b2 {id : String} {p : P22} {x : Str} {ps : Pos} (hc : CallR X (.builtin id) (Pr2' g (p22 p) (isF (.op22 p a b)))) (hm : X.mg x = none) (hv : bootBuiltins x = some (.builtin id)) (ha : DG Φ g W X ea a) (hb : DG Φ g W X eb b) (hg : Gl X x := by rfl)
    (hn : x ≠ "__name__" := by decide) (hdb : (x == ("__debug__" : Str)) = false := by decide) (hs : starEach [ea, eb] X.env = (false, eval ea X.env) :: starEach [eb] X.env := by rfl) (hs2 : starEach [eb] X.env = (false, eval eb X.env) :: starEach [] X.env := by rfl) (hpl : (backTo pos (starEach [eb] X.env)).any (·.1) = false := by rfl) :
    DE Φ g W X (.Call (.Name x ps) [ea, eb] [] pos) (.op22 p a b) := by
  refine PE.from (pe_callB hc hg hm hv (pa_cons ha (pa_cons hb pa_nil hs2) hs) hn hdb hs hpl) fun σ H Q ⟨κ, O, e, R, h⟩ => ?_
  exact go_2 (f := p22 p) R h fun x y H2 e2 d d' z R2 K2 hx hy hz k => ⟨x, y, rfl, pr2_of R2 K2 hx hy hz k⟩
theorem de_isN {j pos'} (ha : DG Φ g W X ea a) : DE Φ g W X (.Compare ea [.Is] [.Constant .none j pos'] pos) (.op1 .isN a) := by
  refine PE.from (pe_cmpR op_isN ha pe_non (nomark _)) fun σ H Q ⟨κ, O, e, R, h⟩ => ?_
  refine go_1 (f := p1 .isN) R h fun x H1 e1 d z R1 K1 hx hz k => ⟨rfl, ?_⟩
  cases hz
  have e2 : decide (x = V.non) = isNon d := by
    rcases hx with hx | ⟨p, vs, l, rfl, rfl, _⟩
    · cases hx <;> rfl
    · rfl
  rw [e2]
  exact k _ H1 R1 K1 (GotX.flag (.bl _) (fun l q => by cases q) _)
theorem de_notN {j pos'} (ha : DG Φ g W X ea a) : DE Φ g W X (.Compare ea [.IsNot] [.Constant .none j pos'] pos) (.op1 .notN a) := by
  refine PE.from (pe_cmpR op_notN ha pe_non (nomark _)) fun σ H Q ⟨κ, O, e, R, h⟩ => ?_
  refine go_1 (f := p1 .notN) R h fun x H1 e1 d z R1 K1 hx hz k => ⟨rfl, ?_⟩
  cases hz
  have e2 : decide (x = V.non) = isNon d := by
    rcases hx with hx | ⟨p, vs, l, rfl, rfl, _⟩
    · cases hx <;> rfl
    · rfl
  rw [e2]
  exact k _ H1 R1 K1 (GotX.flag (.bl _) (fun l q => by cases q) _)
theorem dt_isN {j pos'} (ha : DG Φ g W X ea a) : DT Φ g W X (.Compare ea [.Is] [.Constant .none j pos'] pos) (.op1 .isN a) := by
  refine PT.from (pt_cmpR op_isN ha pe_non (nomark _)) fun σ H Q h => ?_
  obtain ⟨κ, O, e, R, h⟩ := ts_bl (fun e d e1 hd => by
    obtain ⟨x, e2, _, hd⟩ := bind_ok hd
    obtain ⟨d1, e4, _, hd⟩ := bind_ok hd
    exact ⟨_, (Option.some.inj (opt_ok hd).1).symm⟩) h
  refine go_1 (f := p1 .isN) R h fun x H1 e1 d z R1 K1 hx hz k => ⟨rfl, ?_⟩
  cases hz
  have e2 : decide (x = V.non) = isNon d := by
    rcases hx with hx | ⟨p, vs, l, rfl, rfl, _⟩
    · cases hx <;> rfl
    · rfl
  rw [e2]
  exact k _ H1 R1 K1 (GotX.flag (.bl _) (fun l q => by cases q) _)
theorem dt_notN {j pos'} (ha : DG Φ g W X ea a) : DT Φ g W X (.Compare ea [.IsNot] [.Constant .none j pos'] pos) (.op1 .notN a) := by
  refine PT.from (pt_cmpR op_notN ha pe_non (nomark _)) fun σ H Q h => ?_
  obtain ⟨κ, O, e, R, h⟩ := ts_bl (fun e d e1 hd => by
    obtain ⟨x, e2, _, hd⟩ := bind_ok hd
    obtain ⟨d1, e4, _, hd⟩ := bind_ok hd
    exact ⟨_, (Option.some.inj (opt_ok hd).1).symm⟩) h
  refine go_1 (f := p1 .notN) R h fun x H1 e1 d z R1 K1 hx hz k => ⟨rfl, ?_⟩
  cases hz
  have e2 : decide (x = V.non) = isNon d := by
    rcases hx with hx | ⟨p, vs, l, rfl, rfl, _⟩
    · cases hx <;> rfl
    · rfl
  rw [e2]
  exact k _ H1 R1 K1 (GotX.flag (.bl _) (fun l q => by cases q) _)
end
end Pv

namespace Pv
open PySem PySem.Spec PyProof.Rows L2

/-! ## 8. isinstance, chains, slices, ranges as lists -/
section
variable {Φ : Orc} {g : Gm} {W : WX} {X : Cx} {κ : Kp} {O : Addr → Prop} {σ : L2.St} {H : Hp} {e : Sl} {a b : Ag} {ea eb ec : Expr} {pos p2' p3 p4 : Pos}
def kitTab : Bool := (["NoneType", "bool", "int", "str", "tuple", "list"].all fun n => ["bool", "int", "str", "tuple", "list"].all fun t => L2.kitB n t == some (isTy n t))
theorem kitTab_ok : kitTab = true := by decide +kernel
def tys : List String := ["bool", "int", "str", "tuple", "list"]
theorem kit_at {n t : String} (hn : n ∈ ["NoneType", "bool", "int", "str", "tuple", "list"]) (ht : t ∈ tys) : L2.kitB n t = some (isTy n t) := by
  have h := List.all_eq_true.mp (List.all_eq_true.mp kitTab_ok n hn) t ht
  exact eq_of_beq h
theorem ty_of (hK : X.K = g.K) {m : Addr → Prop} {H : Hp} {v : V} {d : D} {n : String} (h : DatW g m H v d) (e : tyN d = some n) : n ∈ ["NoneType", "bool", "int", "str", "tuple", "list"] ∧ TyX X.K H v (.type n) := by
  cases d with
  | non => cases e; cases h.dat (fun l q => by cases q); exact ⟨by decide, .base .non⟩
  | bl b => cases e; cases h.bl; exact ⟨by decide, .base (.bl b)⟩
  | int i => cases e; cases h.int; exact ⟨by decide, .base (.int i)⟩
  | str y => cases e; cases h.str.1; exact ⟨by decide, .base (.str y)⟩
  | tup l => cases e; obtain ⟨p, vs, rfl, hp, _⟩ := h.tup; exact ⟨by decide, .base (.tup hp)⟩
  | lst l => cases e; obtain ⟨p, vs, rfl, hp, _⟩ := h.lst; exact ⟨by decide, .base (.lst hp)⟩
  | scr l =>
    cases e
    have h' := h.dat fun l q => by cases q
    cases h' with
    | scrF a b => exact ⟨by decide, .base (.frz a)⟩
    | scrK a =>
      obtain ⟨o, its, k, h1, h2, _⟩ := a
      exact ⟨by decide, .kList (by rw [hK]; exact h1) h2⟩
  | fn k => cases e
theorem any_isTy {K : PySem.W.Frag} {n : String} (hn : n ∈ ["NoneType", "bool", "int", "str", "tuple", "list"]) : ∀ {ts : List String}, (∀ t ∈ ts, t ∈ tys) → PySem.W.kitAny K (.type n) (ts.map Value.type) = some (ts.any (isTy n))
  | [], _ => kitAny_nil
  | t :: ts, h => by
    refine kitAny_cons (kit_ty (kit_at hn (h t List.mem_cons_self))) (fun q => ?_) fun q => ?_
    · rw [List.any_cons, q, Bool.false_or]
      exact any_isTy hn fun t ht => h t (List.mem_cons_of_mem _ ht)
    · rw [List.any_cons, q, Bool.true_or]
/-- isinstance(a, t) -/
theorem de_isi (t : String) {xi xt : Str} {pi pt : Pos} (hK : X.K = g.K) (ht : t ∈ tys := by decide) (hvt : bootBuiltins xt = some (.type t) := by rfl) (hmt : X.mg xt = none := by rfl) (hgt : Gl X xt := by rfl) (hm : X.mg xi = none := by rfl) (hgi : Gl X xi := by rfl)
    (hv : bootBuiltins xi = some (.builtin "isinstance") := by rfl)
    (ha : DG Φ g W X ea a) (hntt : xt ≠ "__name__" := by decide) (hdt : (xt == ("__debug__" : Str)) = false := by decide) (hn : xi ≠ "__name__" := by decide) (hd : (xi == ("__debug__" : Str)) = false := by decide)
    (hs : starEach [ea, .Name xt pt] X.env = (false, eval ea X.env) :: starEach [.Name xt pt] X.env := by rfl) (hs2 : starEach [.Name xt pt] X.env = (false, eval (.Name xt pt) X.env) :: starEach [] X.env := by rfl) (hpl : (backTo pos (starEach [.Name xt pt] X.env)).any (·.1) = false := by rfl) :
    DE Φ g W X (.Call (.Name xi pi) [ea, .Name xt pt] [] pos) (.op1 (.isi [t]) a) := by
  refine PE.from (pe_callB call_isi hgi hm hv (pa_cons ha (pa_cons (pe_bltn (v := .ty t) hgt hmt hvt rfl hntt hdt) pa_nil hs2) hs) hn hd hs hpl) fun σ H Q ⟨κ, O, e, R, h⟩ => ?_
  refine go_1 (f := p1 (.isi [t])) R h fun x H1 e1 d z R1 K1 hx hz k => ?_
  obtain ⟨n, hn, rfl⟩ := Option.map_eq_some_iff.mp (show (tyN d).map (fun n => D.bl ([t].any (isTy n))) = some z from hz)
  obtain ⟨h1, h2⟩ := ty_of hK hx hn
  refine ⟨x, .ty t, _, _, _, rfl, .ty t, h2, kit_ty (kit_at h1 ht), ?_⟩
  have := k (.bl (isTy n t)) H1 R1 K1 (GotX.flag (by rw [List.any_cons, List.any_nil, Bool.or_false]; exact .bl _) (fun l q => by cases q) _)
  exact this
/-- isinstance(a, (t, t2)) -/
theorem de_isi2 (t t2 : String) {xi xt xt2 : Str} {x1} {pi pt pt2 pp : Pos} (hK : X.K = g.K) (ht : t ∈ tys := by decide) (hvt : bootBuiltins xt = some (.type t) := by rfl) (hmt : X.mg xt = none := by rfl) (hgt : Gl X xt := by rfl) (ht2 : t2 ∈ tys := by decide) (hvt2 : bootBuiltins xt2 = some (.type t2) := by rfl) (hmt2 : X.mg xt2 = none := by rfl) (hgt2 : Gl X xt2 := by rfl) (hm : X.mg xi = none := by rfl) (hgi : Gl X xi := by rfl)
    (hv : bootBuiltins xi = some (.builtin "isinstance") := by rfl)
    (ha : DG Φ g W X ea a) (hntt : xt ≠ "__name__" := by decide) (hdt : (xt == ("__debug__" : Str)) = false := by decide) (hntt2 : xt2 ≠ "__name__" := by decide) (hdt2 : (xt2 == ("__debug__" : Str)) = false := by decide) (hn : xi ≠ "__name__" := by decide) (hd : (xi == ("__debug__" : Str)) = false := by decide)
    (hs : starEach [ea, .Tuple [.Name xt pt, .Name xt2 pt2] x1 pp] X.env = (false, eval ea X.env) :: starEach [.Tuple [.Name xt pt, .Name xt2 pt2] x1 pp] X.env := by rfl) (hs2 : starEach [.Tuple [.Name xt pt, .Name xt2 pt2] x1 pp] X.env = (false, eval (.Tuple [.Name xt pt, .Name xt2 pt2] x1 pp) X.env) :: starEach [] X.env := by rfl)
    (hs3 : starEach [.Name xt pt, .Name xt2 pt2] X.env = (false, eval (.Name xt pt) X.env) :: starEach [.Name xt2 pt2] X.env := by rfl) (hs4 : starEach [.Name xt2 pt2] X.env = (false, eval (.Name xt2 pt2) X.env) :: starEach [] X.env := by rfl)
    (hpl : (backTo pos (starEach [.Tuple [.Name xt pt, .Name xt2 pt2] x1 pp] X.env)).any (·.1) = false := by rfl) :
    DE Φ g W X (.Call (.Name xi pi) [ea, .Tuple [.Name xt pt, .Name xt2 pt2] x1 pp] [] pos) (.op1 (.isi [t, t2]) a) := by
  have pt0 := pe_tup (pos := pp) (x1 := x1) (pa_cons (pe_bltn (pos := pt) (v := .ty t) hgt hmt hvt rfl hntt hdt) (pa_cons (pe_bltn (pos := pt2) (v := .ty t2) hgt2 hmt2 hvt2 rfl hntt2 hdt2) pa_nil hs4) hs3)
  refine PE.from (pe_callB call_isiT hgi hm hv (pa_cons ha (pa_cons pt0 pa_nil hs2) hs) hn hd hs hpl) fun σ H Q ⟨κ, O, e, R, h⟩ => ?_
  refine go_1 (f := p1 (.isi [t, t2])) R h fun x H1 e1 d z R1 K1 hx hz k => ?_
  obtain ⟨n, hn, rfl⟩ := Option.map_eq_some_iff.mp (show (tyN d).map (fun n => D.bl ([t, t2].any (isTy n))) = some z from hz)
  refine ⟨by show 2 ≤ sizeLine; decide, fun q hq => ?_⟩
  have R2 := R1.newR (u := .tup [.ty t, .ty t2]) hq
  have K2 : Keep O H (upd H1 q (.tup [.ty t, .ty t2])) := K1.trans (Keep.new hq)
  obtain ⟨h1, h2⟩ := ty_of hK (H := upd H1 q (.tup [.ty t, .ty t2])) (m := κ.mk' O) (hx.elim (fun h => .inl ((Keep.new hq : Keep O H1 _).dat h)) fun ⟨p, vs, l, a, b, c, z, f⟩ => .inr ⟨p, vs, l, a, b, by rw [upd_ne (ne_of_none c hq)]; exact c, z, (Keep.new hq : Keep O H1 _).datL f⟩) hn
  have hcc : ∀ t' ∈ [t, t2], t' ∈ tys := fun t' h' => by
    rcases List.mem_cons.mp h' with z | z
    · rw [z]; exact ht
    · rw [List.mem_singleton.mp z]; exact ht2
  refine ⟨x, q, _, _, [.type t, .type t2], _, rfl, upd_same, .cons (.ty t) (.cons (.ty t2) .nil), h2, any_isTy (ts := [t, t2]) h1 hcc, ?_⟩
  exact k (.bl ([t, t2].any (isTy n))) _ R2 K2 (GotX.flag (.bl _) (fun l q => by cases q) _)

/-! ### chains -/
variable {p p' : P2} {c1 c2 c3 : C}
theorem de_chain {op op' : CmpOp} (ho : OpR X (compareOp op) (Pr2 g (p2 p) false)) (ho' : OpR X (compareOp op') (Pr2 g (p2 p') false)) (ha : DE Φ g W X ea c1) (hb : DE Φ g W X eb c2) (hc : DE Φ g W X ec c3)
    (hp : isCmp p = true := by rfl) (hm : lastMarks [op, op'] [eb, ec] = false := by with_unfolding_all rfl) : DE Φ g W X (.Compare ea [op, op'] [eb, ec] pos) (.chain p p' c1 c2 c3) := by
  refine PE.from (pe_chain ho ho' ha hb hc hm) fun σ H Q ⟨κ, O, e, R, h⟩ => ?_
  refine ⟨κ, O, e, R, Run.imp (Run.bind h) fun x e1 _ k1 v1 H1 R1 K1 G1 => ?_⟩
  refine ⟨κ, O, e1, R1, Run.imp (Run.bind (k1 H1 K1)) fun y e2 _ k2 v2 H2 R2 K2 G2 => ?_⟩
  have K12 := K1.trans K2
  obtain ⟨z, hz, h3⟩ := Run.optB (k2 H2 K2)
  obtain ⟨k, rfl⟩ := p2_bl hp hz
  refine ⟨κ.mk' O, x, y, _, R2.nomask, .inl (K2.dat G1.dat), .inl G2.dat, hz, fun v H3 ext G3 => ⟨k, by cases G3.dat; rfl, ?_⟩⟩
  obtain ⟨k', hk', h4⟩ := Run.optB h3
  cases hk'
  have R3 := R2.grow ext
  have K3 : Keep O H2 H3 := fun a o _ q => ext a o q
  cases k with
  | false => exact iteF (h4 _ H3 R3 (K12.trans K3) (GotX.flag (.bl _) (fun l q => by cases q) _))
  | true =>
    refine iteT ?_
    have h5 : Run g κ O W σ H3 ((ev Φ c3 e2).bind fun w e3 => opt (p2 p' y w) e3) fun d e' => ∀ v H', Rel g κ O e' σ H' → Keep O H H' → GotX g κ O e' σ H H' v d (isF (.chain p p' c1 c2 c3)) → Q v H' := by
      have := Run.bind (r := Pv.R.ok () e2) (f := fun _ e2 => (ev Φ c3 e2).bind fun w e3 => opt (p2 p' y w) e3) h4
      exact this H3 K3
    refine ⟨κ, O, e2, R3, Run.imp (Run.bind h5) fun w e3 _ k4 v4 H4 R4 K4 G4 => ?_⟩
    obtain ⟨z4, hz4, h6⟩ := Run.opt (k4 H4 K4)
    exact ⟨κ.mk' O, y, w, z4, R4.nomask, .inl (K4.dat (K3.dat G2.dat)), .inl G4.dat, hz4, fun v H5 ext5 G5 => h6 v H5 (R4.grow ext5) ((K12.trans K3).trans (K4.trans fun a o _ q => ext5 a o q)) (GotX.back (G5.toX R4 ext5) ((K12.trans K3).trans K4) R4.noO)⟩

/-! ### slices -/
abbrev DP (Φ : Orc) (g : Gm) (W : WX) (X : Cx) (e : Option Expr) : Pt → Prop
  | .no => e = none
  | .c c => ∃ ex, e = some ex ∧ DE Φ g W X ex c
theorem dp_no : DP Φ g W X none .no := rfl
theorem dp_c {ex : Expr} {c : C} (h : DE Φ g W X ex c) : DP Φ g W X (some ex) (.c c) := ⟨ex, rfl, h⟩
def tP (Φ : Orc) (g : Gm) (W : WX) : Pt → TO
  | .no => tNoPart
  | .c c => tPart (tEv Φ g W c)
theorem dp_po {o : Option Expr} {c : Pt} (h : DP Φ g W X o c) : PO X o (tP Φ g W c) := by
  cases c with
  | no => cases h; exact po_none
  | c c => obtain ⟨ex, rfl, h⟩ := h; exact po_some h
theorem go_p (R : Rel g κ O e σ H) {a : Pt} {Q : Option Int → Hp → Prop} (h : Run g κ O W σ H (evP Φ a e) fun x e' => ∀ H', Rel g κ O e' σ H' → Keep O H H' → Q x H') : tP Φ g W a σ H Q := by
  cases a with
  | no => exact h H R (Keep.refl _ _)
  | c c =>
    refine ⟨κ, O, e, R, Run.imp (Run.bind h) fun d e' _ k v H' R' K' G => ?_⟩
    have k' := k H' K'
    cases d with
    | int i => cases G.dat; exact ⟨i, rfl, k' H' R' K'⟩
    | _ => exact k'.elim
def SlRp (g : Gm) (fl : Bool) : V → Option Int → Option Int → Hp → VK → Prop := fun x lo hi H Q => Pr1 g (pSlice lo hi) fl x H Q
theorem cut_len {vs : List V} {l : List D} (h : vs.length = l.length) (lo hi : Option Int) : L2.cutV vs lo hi = (vs.drop (HT.sIx l.length 0 lo)).take (HT.sIx l.length l.length hi - HT.sIx l.length 0 lo) := by
  unfold L2.cutV
  rw [h]
theorem datL_cut {m : Addr → Prop} {vs : List V} {l : List D} (h : DatL g m H vs l) (lo hi : Option Int) : DatL g m H (L2.cutV vs lo hi) (cutD l lo hi) := by
  rw [cut_len h.length]
  exact (h.drop _).take _
theorem sl_whole {xs : List V} {lo hi : Option Int} (h : HT.sIx xs.length 0 lo = 0 ∧ HT.sIx xs.length xs.length hi = xs.length) : L2.cutV xs lo hi = xs := by
  unfold L2.cutV
  rw [h.1, h.2, List.drop_zero, Nat.sub_zero, List.take_length]
theorem r_slice (hK : X.K = g.K) (fl : Bool) : L2.SlR X (SlRp g fl) := by
  intro pins s σ H x v vl vu lo hi sl Q I rx hs pl pu ⟨m, d, z, hm, hx, hf, q⟩
  cases d with
  | tup l =>
    obtain ⟨p, vs, rfl, hp, hz, dl⟩ := hx.tup
    cases hf
    have dc := datL_cut dl lo hi
    have hzc : (L2.cutV vs lo hi).length ≤ sizeLine := Nat.le_trans (cutV_length _ _ _) hz
    refine sl_tupA pins s σ H _ v vl vu lo hi sl Q I rx hs pl pu ⟨p, vs, rfl, SqT.of hp, fun hw => ?_, fun hw p2 hp2 => ?_⟩
    · refine q _ H ext_refl (Got.flag ?_ (fun l q => by cases q) fl)
      rw [sl_whole hw] at dc
      have hd := hx.dat fun l q => by cases q
      cases hd with
      | tup e1 n1 z1 d1 =>
        rw [hp] at e1
        cases e1
        exact .tup hp n1 hz dc
    · exact q _ _ (ext_upd hp2) (got_tup hp2 hm hzc dc fl)
  | lst l =>
    obtain ⟨p, vs, rfl, hp, hz, dl⟩ := hx.lst
    cases hf
    have dc := datL_cut dl lo hi
    have hzc : (L2.cutV vs lo hi).length ≤ sizeLine := Nat.le_trans (cutV_length _ _ _) hz
    exact sl_list pins s σ H _ v vl vu lo hi sl Q I rx hs pl pu ⟨p, vs, rfl, SqL.of hp, fun p2 hp2 => q _ _ (ext_upd hp2) (got_lst hp2 hm hzc dc fl)⟩
  | scr l =>
    obtain ⟨p, rfl, hp⟩ := hx.scr
    cases hf
    rw [← hK] at hp
    obtain ⟨its, r, _, hz⟩ := I.list hp
    have dc : DatL g m H (L2.cutV (l.map V.int) lo hi) (cutD (l.map D.int) lo hi) := datL_cut DatL.of_ints lo hi
    have hzc : (L2.cutV (l.map V.int) lo hi).length ≤ sizeLine := Nat.le_trans (cutV_length _ _ _) hz
    exact sl_list pins s σ H _ v vl vu lo hi sl Q I rx hs pl pu ⟨p, _, rfl, hp, fun p2 hp2 => q _ _ (ext_upd hp2) (got_lst hp2 hm hzc dc fl)⟩
  | str y =>
    obtain ⟨rfl, hz⟩ := hx.str
    cases hf
    exact sl_str pins s σ H _ v vl vu lo hi sl Q I rx hs pl pu ⟨y, rfl, hz, q _ H ext_refl (got_str _ (Nat.le_trans (cutS_length _ _ _) hz) fl)⟩
  | _ => cases hf
theorem de_slice {lo hi : Option Expr} {l h : Pt} {ps : Pos} (hK : X.K = g.K) (ha : DG Φ g W X ea a) (hl : DP Φ g W X lo l) (hh : DP Φ g W X hi h) : DE Φ g W X (.Subscript ea (.Slice lo hi none ps) pos) (.slice a l h) := by
  refine PE.from (pe_slice (r_slice hK true) ha (dp_po hl) (dp_po hh)) fun σ H Q ⟨κ, O, e, R, h⟩ => ?_
  refine go_g R (Run.imp (Run.bind h) fun x e1 _ k1 v H1 R1 K1 V1 => ?_)
  refine go_p R1 (Run.imp (Run.bind (k1 H1 K1)) fun l e2 _ k2 H2 R2 K2 => ?_)
  refine go_p R2 (Run.imp (Run.bind (k2 H2 K2)) fun h e3 _ k3 H3 R3 K3 => ?_)
  obtain ⟨d, hd, h2⟩ := Run.optB (k3 H3 K3)
  obtain ⟨z, hz, h3⟩ := Run.opt h2
  exact pr1_of R3 ((K1.trans K2).trans K3) (((V1.keep K2).keep K3).get R3 hd).1 hz h3

/-! ### list(range(..)), tuple(range(..)) -/
theorem rg_len (a b : Int) : (rng a b).length = (b - a).toNat := by unfold rng; rw [List.length_map, List.length_range]
theorem rg_dat {m : Addr → Prop} (a b : Int) : DatL g m H (rgV a b) (rng a b) := by
  have e1 : rgV a b = ((List.range (b - a).toNat).map fun i => a + (i : Nat)).map V.int := by rw [List.map_map]; rfl
  have e2 : rng a b = ((List.range (b - a).toNat).map fun i => a + (i : Nat)).map D.int := by rw [List.map_map]; rfl
  rw [e1, e2]
  exact DatL.of_ints
theorem okR_ok {i : Int} (h : okR i = true) : -(2 ^ 62) ≤ i ∧ i < 2 ^ 62 := by
  unfold okR at h
  rw [Bool.and_eq_true] at h
  exact ⟨of_decide_eq_true h.1, of_decide_eq_true h.2⟩
theorem rgOk_of {i j : Int} (h : (okR i && okR j && decide ((j - i).toNat ≤ LIM)) = true) : RgOk i j := by
  rw [Bool.and_eq_true, Bool.and_eq_true] at h
  exact ⟨(okR_ok h.1.1).1, (okR_ok h.1.1).2, (okR_ok h.1.2).1, (okR_ok h.1.2).2, of_decide_eq_true h.2⟩
theorem rgz {i j : Int} (h : RgOk i j) : (rgV i j).length ≤ sizeLine := by
  rw [rgV_length, sizeLine_eq]
  obtain ⟨_, _, _, _, h⟩ := h
  omega
theorem rg2 {c c' : C} {K : D → Sl → Prop} {f : List D → D} {Q : VK} {T : Int → Int → Hp → Prop} (R : Rel g κ O e σ H) (h : Run g κ O W σ H ((ev Φ c e).bind fun a e1 => (ev Φ c' e1).bind fun b e2 => match a, b with
    | .int i, .int j => if okR i && okR j && decide ((j - i).toNat ≤ LIM) then .ok (f (rng i j)) e2 else .bad
    | _, _ => .bad) K) (k : ∀ i j H2 e2, Rel g κ O e2 σ H2 → Keep O H H2 → RgOk i j → K (f (rng i j)) e2 → T i j H2) : tRg2 (tEv Φ g W c) (tEv Φ g W c') σ H T := by
  refine ⟨κ, O, e, R, Run.imp (Run.bind h) fun d e1 _ k1 v H1 R1 K1 G1 => ?_⟩
  refine ⟨κ, O, e1, R1, Run.imp (Run.bind (k1 H1 K1)) fun d' e2 _ k2 w H2 R2 K2 G2 => ?_⟩
  have h3 := k2 H2 K2
  cases d with
  | int i =>
    cases d' with
    | int j =>
      cases G1.dat
      cases G2.dat
      obtain ⟨hc, h4⟩ := Run.ite h3
      exact ⟨i, j, rfl, rfl, k i j H2 e2 R2 (K1.trans K2) (rgOk_of hc) h4⟩
    | _ => exact h3.elim
  | _ => exact h3.elim
theorem go_int {i : Int} {c : C} {e : Sl} : (ev Φ (.con (.int i)) e).bind (fun a e1 => (Pv.R.ok (a, ()) e1 : Pv.R (D × Unit))) = .ok (.int i, ()) e := rfl
theorem rg1 {c' : C} {K : D → Sl → Prop} {f : List D → D} {T : Int → Int → Hp → Prop} (R : Rel g κ O e σ H) (h : Run g κ O W σ H ((ev Φ (.con (.int 0)) e).bind fun a e1 => (ev Φ c' e1).bind fun b e2 => match a, b with
    | .int i, .int j => if okR i && okR j && decide ((j - i).toNat ≤ LIM) then .ok (f (rng i j)) e2 else .bad
    | _, _ => .bad) K) (k : ∀ j H2 e2, Rel g κ O e2 σ H2 → Keep O H H2 → RgOk 0 j → K (f (rng 0 j)) e2 → T 0 j H2) : tRg1 (tEv Φ g W c') σ H T := by
  have h' : Run g κ O W σ H ((ev Φ c' e).bind fun b e2 => match (D.int 0), b with
    | .int i, .int j => if okR i && okR j && decide ((j - i).toNat ≤ LIM) then .ok (f (rng i j)) e2 else .bad
    | _, _ => .bad) K := h
  refine ⟨κ, O, e, R, Run.imp (Run.bind h') fun d' e2 _ k2 w H2 R2 K2 G2 => ?_⟩
  have h3 := k2 H2 K2
  cases d' with
  | int j =>
    cases G2.dat
    obtain ⟨hc, h4⟩ := Run.ite h3
    exact ⟨j, rfl, k j H2 e2 R2 K2 (rgOk_of hc) h4⟩
  | _ => exact h3.elim
theorem de_listR2 {p1 q1 : Pos} (hcal : X.calm = true) (ha : DE Φ g W X ea c1) (hb : DE Φ g W X eb c2) (hm : X.mg "list" = none := by rfl) (hg : Gl X "list" := by rfl) (hm2 : X.mg "range" = none := by rfl) (hg2 : Gl X "range" := by rfl)
    (na : starEach [ea, eb] X.env = (false, eval ea X.env) :: starEach [eb] X.env := by rfl) (nb : starEach [eb] X.env = (false, eval eb X.env) :: starEach [] X.env := by rfl) (hp : (backTo q1 (starEach [eb] X.env)).any (·.1) = false := by rfl)
    (nc : starEach [.Call (.Name "range" p3) [ea, eb] [] q1] X.env = (false, eval (.Call (.Name "range" p3) [ea, eb] [] q1) X.env) :: starEach [] X.env := by rfl) :
    DE Φ g W X (.Call (.Name "list" p1) [.Call (.Name "range" p3) [ea, eb] [] q1] [] pos) (.listR c1 c2) := by
  refine PE.from (pe_listRg hcal hg hm (prg_2 hg2 hm2 ha hb na nb hp) nc) fun σ H Q ⟨κ, O, e, R, h⟩ => ?_
  refine rg2 (Q := Q) (f := .lst) R h fun i j H2 e2 R2 K2 ok k => ⟨ok, fun q hq => ?_⟩
  exact k _ _ (R2.newR hq) (K2.trans (Keep.new hq)) (GotX.back ((got_lst hq R2.nomask (rgz ok) (rg_dat i j) _).toX R2 (ext_upd hq)) K2 R2.noO)
theorem de_listR1 {p1 q1 : Pos} (hcal : X.calm = true) (hb : DE Φ g W X eb c2) (hm : X.mg "list" = none := by rfl) (hg : Gl X "list" := by rfl) (hm2 : X.mg "range" = none := by rfl) (hg2 : Gl X "range" := by rfl)
    (na : starEach [eb] X.env = (false, eval eb X.env) :: starEach [] X.env := by rfl)
    (nc : starEach [.Call (.Name "range" p3) [eb] [] q1] X.env = (false, eval (.Call (.Name "range" p3) [eb] [] q1) X.env) :: starEach [] X.env := by rfl) :
    DE Φ g W X (.Call (.Name "list" p1) [.Call (.Name "range" p3) [eb] [] q1] [] pos) (.listR (.con (.int 0)) c2) := by
  refine PE.from (pe_listRg hcal hg hm (prg_1 hg2 hm2 hb na) nc) fun σ H Q ⟨κ, O, e, R, h⟩ => ?_
  refine rg1 (f := .lst) R h fun j H2 e2 R2 K2 ok k => ⟨ok, fun q hq => ?_⟩
  exact k _ _ (R2.newR hq) (K2.trans (Keep.new hq)) (GotX.back ((got_lst hq R2.nomask (rgz ok) (rg_dat 0 j) _).toX R2 (ext_upd hq)) K2 R2.noO)
theorem de_tupleR2 {p1 q1 : Pos} (hcal : X.calm = true) (ha : DE Φ g W X ea c1) (hb : DE Φ g W X eb c2) (hm : X.mg "tuple" = none := by rfl) (hg : Gl X "tuple" := by rfl) (hm2 : X.mg "range" = none := by rfl) (hg2 : Gl X "range" := by rfl)
    (na : starEach [ea, eb] X.env = (false, eval ea X.env) :: starEach [eb] X.env := by rfl) (nb : starEach [eb] X.env = (false, eval eb X.env) :: starEach [] X.env := by rfl) (hp : (backTo q1 (starEach [eb] X.env)).any (·.1) = false := by rfl)
    (nc : starEach [.Call (.Name "range" p3) [ea, eb] [] q1] X.env = (false, eval (.Call (.Name "range" p3) [ea, eb] [] q1) X.env) :: starEach [] X.env := by rfl) :
    DE Φ g W X (.Call (.Name "tuple" p1) [.Call (.Name "range" p3) [ea, eb] [] q1] [] pos) (.tupleR c1 c2) := by
  refine PE.from (pe_tupRg hcal hg hm (prg_2 hg2 hm2 ha hb na nb hp) nc) fun σ H Q ⟨κ, O, e, R, h⟩ => ?_
  refine rg2 (Q := Q) (f := .tup) R h fun i j H2 e2 R2 K2 ok k => ⟨ok, fun q hq => ?_⟩
  exact k _ _ (R2.newR hq) (K2.trans (Keep.new hq)) (GotX.back ((got_tup hq R2.nomask (rgz ok) (rg_dat i j) _).toX R2 (ext_upd hq)) K2 R2.noO)
theorem de_tupleR1 {p1 q1 : Pos} (hcal : X.calm = true) (hb : DE Φ g W X eb c2) (hm : X.mg "tuple" = none := by rfl) (hg : Gl X "tuple" := by rfl) (hm2 : X.mg "range" = none := by rfl) (hg2 : Gl X "range" := by rfl)
    (na : starEach [eb] X.env = (false, eval eb X.env) :: starEach [] X.env := by rfl)
    (nc : starEach [.Call (.Name "range" p3) [eb] [] q1] X.env = (false, eval (.Call (.Name "range" p3) [eb] [] q1) X.env) :: starEach [] X.env := by rfl) :
    DE Φ g W X (.Call (.Name "tuple" p1) [.Call (.Name "range" p3) [eb] [] q1] [] pos) (.tupleR (.con (.int 0)) c2) := by
  refine PE.from (pe_tupRg hcal hg hm (prg_1 hg2 hm2 hb na) nc) fun σ H Q ⟨κ, O, e, R, h⟩ => ?_
  refine rg1 (f := .tup) R h fun j H2 e2 R2 K2 ok k => ⟨ok, fun q hq => ?_⟩
  exact k _ _ (R2.newR hq) (K2.trans (Keep.new hq)) (GotX.back ((got_tup hq R2.nomask (rgz ok) (rg_dat 0 j) _).toX R2 (ext_upd hq)) K2 R2.noO)
end
end Pv

namespace Pv
open PySem PySem.Spec PyProof.Rows L2

/-! ## 9. calls -/
def Args (g : Gm) (U M : Addr → Prop) (H : Hp) (vs : List V) (ds : List D) : Option (List D) → Prop
  | none => (∀ a, ¬ M a) ∧ DatL g U H vs ds
  | some l => ∃ p vs' ws, vs = .ref p :: vs' ∧ (∀ a, M a ↔ a = p) ∧ H p = some (.lst ws) ∧ ws.length ≤ sizeLine ∧ DatL g (fun a => U a ∨ M a) H ws l ∧ DatL g (fun a => U a ∨ M a) H vs' ds
def TinOut (g : Gm) (U M : Addr → Prop) (H : Hp) : Option (List D) → Prop
  | none => True
  | some l => ∀ p, M p → ∃ ws, H p = some (.lst ws) ∧ ws.length ≤ sizeLine ∧ DatL g (fun a => U a ∨ M a) H ws l
structure GotS (g : Gm) (U M : Addr → Prop) (H H' : Hp) (v : V) (d : D) (t : Option (List D)) (fl : Bool) : Prop where
  dat : Dat g (fun a => U a ∨ M a) H' v d
  tin : TinOut g U M H' t
  new : fl = true → ∀ l, d = .lst l → ∃ p vs, v = .ref p ∧ H p = none ∧ H' p = some (.lst vs) ∧ vs.length ≤ sizeLine ∧ DatL g (fun a => (U a ∨ M a) ∨ a = p) H' vs l ∧ TinOut g (fun a => U a ∨ a = p) M H' t
/-- what a def promises: φ tells what it does with its data -/
def spF (g : Gm) (φ : Option (List D) → List D → Fr) (io fresh : Bool) (n : Nat) : Sp := fun vs H Q E => vs.length = n ∧ ∃ (U M : Addr → Prop) (t : Option (List D)) (ds : List D), t.isSome = io ∧ (∀ a, U a → ∃ ws : List V, H a = some (.lst ws)) ∧ (∀ a, M a → ¬ U a) ∧ Args g U M H vs ds t ∧
  match φ t ds with
  | .ok d t' => ∀ v H', (∀ a o, ¬ M a → H a = some o → H' a = some o) → GotS g U M H H' v d t' fresh → Q v H'
  | .ex k p => ∀ dx H', (∀ a o, ¬ M a → H a = some o → H' a = some o) → Pay k p dx H' → E (.ref (g.ca k)) dx H'
  | .bad => False
/-- the defs that may be called -/
structure Held (Φ : Orc) (fr : Nat → Bool) (g : Gm) (P : Program) (w : World) (K : PySem.W.Frag) (mg : Str → Option Value) (base : Heap) (A : Around) : Prop where
  ok : ∀ k io n, g.ar k = some (io, n) → ∃ lvl fd ps, Room lvl A ∧ FnOk P w K mg base (L2.CX P w) lvl (g.fa k) fd ps (spF g (Φ k) io (fr k) n) ∧ PySem.W.keepIn K (.ref (g.fa k)) = true ∧ Binds K fd ps []
  shape : ∀ k t ds, Φ k t ds ≠ .bad → g.ar k = some (t.isSome, ds.length + if t.isSome then 1 else 0)
abbrev HeldX (Φ : Orc) (fr : Nat → Bool) (g : Gm) (X : Cx) : Prop := Held Φ fr g X.prog X.w X.K X.mg X.base X.A
mutual
theorem Dat.freed {g : Gm} {m m' : Addr → Prop} {H : Hp} (hl : ∀ a, m' a → ∃ ws : List V, H a = some (.lst ws)) : ∀ {d : D} {v : V}, free d = true → Dat g m H v d → Dat g m' H v d
  | .non, _, _, h => by cases h; exact .non
  | .bl _, _, _, h => by cases h; exact .bl _
  | .int _, _, _, h => by cases h; exact .int _
  | .str _, _, _, h => by cases h with | str _ q => exact .str _ q
  | .fn _, _, _, h => by cases h; exact .fn _
  | .scr _, _, f, h => by cases f
  | .lst ds, _, f, h => by cases f
  | .tup ds, _, f, h => by
    cases h with
    | tup e n z t => exact .tup e (fun q => by obtain ⟨ws, q⟩ := hl _ q; rw [e] at q; cases q) z (DatL.freed hl f t)
theorem DatL.freed {g : Gm} {m m' : Addr → Prop} {H : Hp} (hl : ∀ a, m' a → ∃ ws : List V, H a = some (.lst ws)) : ∀ {ds : List D} {vs : List V}, freeL ds = true → DatL g m H vs ds → DatL g m' H vs ds
  | [], _, _, h => by cases h; exact .nil
  | d :: ds, _, f, h => by
    cases h with
    | cons a t =>
      have f' : (free d && freeL ds) = true := f
      rw [Bool.and_eq_true] at f'
      exact .cons (Dat.freed hl f'.1 a) (DatL.freed hl f'.2 t)
end
section
variable {Φ : Orc} {fr : Nat → Bool} {g : Gm} {W : WX} {X : Cx} {κ : Kp} {O : Addr → Prop} {σ : L2.St} {H : Hp} {e : Sl} {as : As} {ea : Expr} {es : List Expr} {pos p : Pos}
/-- the lists of one's own among arguments -/
def Bor (e : Sl) (σ : L2.St) (xs : List Vr) : Addr → Prop := fun a => ∃ (i : Nat) (l : List D), (Sum.inr i : Vr) ∈ xs ∧ e[i]? = some (Ent.ow l) ∧ σ[i]? = some (some (V.ref a))
theorem Bor.none (h : ∀ x ∈ xs, isOw e x = false) (a : Addr) : ¬ Bor e σ xs a := fun ⟨i, l, h1, h2, h3⟩ => by
  have := h _ h1
  simp [isOw, h2] at this
theorem vr_bor (R : Rel g κ O e σ H) {B : Addr → Prop} {v : V} {x : Vr} {d : D} (h : VrOk g κ O σ H v x) (q : vget e x = some d) (hB : ∀ (i : Nat) (l : List D) (a : Addr), x = Sum.inr i → e[i]? = some (Ent.ow l) → σ[i]? = some (some (V.ref a)) → B a) : Dat g (fun a => κ.mk' O a ∧ ¬ B a) H v d := by
  cases x with
  | inl d' =>
    have q' : some d' = some d := q
    cases q'
    exact Dat.mono (fun _ _ _ z => z) (fun a _ z _ => z.1) h
  | inr i =>
    have h' : σ[i]? = some (some v) := h
    cases z : e[i]? with
    | none => simp [vget, z] at q
    | some u =>
      cases u with
      | un => simp [vget, z] at q
      | sh d' =>
        have q' : d' = d := by simpa [vget, z] using q
        subst q'
        obtain ⟨w, a, b⟩ := R.sh i d' z
        rw [h'] at a
        cases a
        exact b.mono (fun _ _ _ z => z) fun a _ z _ => z.1
      | ow l =>
        have q' : D.lst l = d := by simpa [vget, z] using q
        subst q'
        obtain ⟨p, vs, a, b, c, f, k⟩ := R.ow i l z
        rw [h'] at a
        cases a
        exact .lst c (fun y => y.2 (hB i l p rfl z h')) f (k.mono (fun _ _ _ z => z) fun a _ z _ => z.1)
theorem vrs_bor (R : Rel g κ O e σ H) {B : Addr → Prop} : ∀ {vs : List V} {xs : List Vr} {ds : List D}, VrsOk g κ O σ H vs xs → vgets e xs = some ds → (∀ (i : Nat) (l : List D) (a : Addr), (Sum.inr i : Vr) ∈ xs → e[i]? = some (Ent.ow l) → σ[i]? = some (some (V.ref a)) → B a) → DatL g (fun a => κ.mk' O a ∧ ¬ B a) H vs ds
  | _, _, ds, .nil, q, _ => by cases q; exact .nil
  | _, _, ds, .cons (x := x) (xs := xs) a t, q, n => by
    have q' : (match vget e x, vgets e xs with
      | some d, some ds => some (d :: ds)
      | _, _ => none) = some ds := q
    cases h1 : vget e x with
    | none => rw [h1] at q'; cases q'
    | some d =>
      cases h2 : vgets e xs with
      | none => rw [h1, h2] at q'; cases q'
      | some ds' =>
        rw [h1, h2] at q'
        cases q'
        exact .cons (vr_bor R a h1 fun i l a e1 => n i l a (by rw [e1]; exact List.mem_cons_self)) (vrs_bor R t h2 fun i l a m => n i l a (List.mem_cons_of_mem _ m))
theorem vgets_len : ∀ {xs : List Vr} {ds : List D}, vgets e xs = some ds → xs.length = ds.length
  | [], ds, q => by cases q; rfl
  | x :: xs, ds, q => by
    have q' : (match vget e x, vgets e xs with
      | some d, some ds => some (d :: ds)
      | _, _ => none) = some ds := q
    cases h1 : vget e x with
    | none => rw [h1] at q'; cases q'
    | some d =>
      cases h2 : vgets e xs with
      | none => rw [h1, h2] at q'; cases q'
      | some ds' =>
        rw [h1, h2] at q'
        cases q'
        rw [List.length_cons, List.length_cons, vgets_len h2]
/-- a call's data is handed over, its end is taken back -/
theorem sp_of (hE : HeldX Φ fr g X) {k n : Nat} {fl : Bool} (har : g.ar k = some (false, n)) (hfl : fl = true → fr k = true) (R : Rel g κ O e σ H) {vs : List V} {xs : List Vr} {ds : List D} {H0 : Hp} (K0 : Keep O H0 H) (hV : VrsOk g κ O σ H vs xs) (hd : vgets e xs = some ds) {Q : VK}
    (h : Run g κ O W σ H0 (frOf fl e xs (Φ k none ds)) fun d e' => ∀ v H', Rel g κ O e' σ H' → Keep O H0 H' → GotX g κ O e' σ H0 H' v d fl → Q v H') : spF g (Φ k) false (fr k) n vs H Q (WE W σ) := by
  have dl := vrs_bor R (B := Bor e σ xs) hV hd fun i l a m h1 h2 => ⟨i, l, m, h1, h2⟩
  have nb : Φ k none ds ≠ .bad := fun z => by rw [z] at h; exact h
  have hs := hE.shape k none ds nb
  rw [har] at hs
  have hn : n = ds.length := by
    have := congrArg Prod.snd (Option.some.inj hs)
    simpa using this
  refine ⟨by rw [dl.length, hn], fun a => κ.mk' O a ∧ ¬ Bor e σ xs a, fun _ => False, none, ds, rfl, fun a z => R.masked z.1, fun a z => z.elim, ⟨fun a z => z, dl⟩, ?_⟩
  cases q : Φ k none ds with
  | bad => exact nb q
  | ex c p =>
    rw [q] at h
    exact fun dx H' ext P => h dx H' (R.grow fun a o z => ext a o id z) (K0.trans fun a o _ z => ext a o id z) P
  | ok d t' =>
    rw [q] at h
    cases t' with
    | some l => exact h.elim
    | none =>
      intro v H' ext G
      obtain ⟨hc, h2⟩ := Run.iteN h
      have R' := R.grow fun a o z => ext a o id z
      have K' : Keep O H0 H' := K0.trans fun a o _ z => ext a o id z
      refine h2 v H' R' K' (GotX.back (H := H0) (H1 := H) ?_ K0 R.noO)
      cases hb : xs.any (isOw e) with
      | false =>
        have hB := fun a => Bor.none (e := e) (σ := σ) (xs := xs) (fun x hx => by
          have := List.any_eq_false.mp hb x hx
          simpa using this) a
        have hm : ∀ a, κ.mk' O a → (κ.mk' O a ∧ ¬ Bor e σ xs a) ∨ False := fun a z => .inl ⟨z, hB a⟩
        refine ⟨G.dat.mono (fun _ _ _ z => z) fun a _ z _ => hm a z, fun f l ed => ?_⟩
        obtain ⟨p, ws, a1, a2, a3, a4, a5, _⟩ := G.new (hfl f) l ed
        exact ⟨p, ws, a1, a2, a3, a4, a5.mono (fun _ _ _ z => z) fun a _ z _ => z.imp (hm a) id, R.hideG a2 (fun a o z => ext a o id z) a3⟩
      | true =>
        rw [hb, Bool.true_and] at hc
        have hc' : freeR fl d = true := by simpa using hc
        by_cases hl : ∃ l, d = .lst l
        · obtain ⟨l, rfl⟩ := hl
          have f : (fl && freeL l) = true := hc'
          rw [Bool.and_eq_true] at f
          obtain ⟨f1, f2⟩ := f
          obtain ⟨p, ws, a1, a2, a3, a4, a5, _⟩ := G.new (hfl f1) l rfl
          have hp : ∀ a, κ.mk' O a ∨ a = p → ∃ ws : List V, H' a = some (.lst ws) := fun a z => z.elim (fun z => R'.masked z) fun z => by subst z; exact ⟨ws, a3⟩
          have a6 : DatL g (fun a => κ.mk' O a ∨ a = p) H' ws l := DatL.freed hp f2 a5
          refine ⟨?_, fun _ l' ed => ?_⟩
          · subst a1
            exact .lst a3 (fun z => R.nomask p z a2) a4 (a6.mono (fun _ _ _ z => z) fun a _ z _ => .inl z)
          · cases ed
            exact ⟨p, ws, a1, a2, a3, a4, a6, R.hideG a2 (fun a o z => ext a o id z) a3⟩
        · have f : free d = true := by
            cases d with
            | lst l => exact absurd ⟨l, rfl⟩ hl
            | _ => exact hc'
          exact GotX.flag (G.dat.freed (fun a z => R'.masked z) f) (fun l ed => hl ⟨l, ed⟩) _
/-- f(..) of a def of the module -/
theorem de_call (k : Nat) {fl : Bool} {n : Nat} {x : Str} (hE : HeldX Φ fr g X) (tk : Takes X W) (ha : DA Φ g W X (ea :: es) as) (har : g.ar k = some (false, n) := by rfl) (hm : X.mg x = some (.ref (g.fa k)) := by rfl) (hg : Gl X x := by rfl) (hfl : fl = true → fr k = true := by intro z; first | rfl | cases z)
    (hdb : (x == ("__debug__" : Str)) = false := by decide) (hs : starEach (ea :: es) X.env = (false, eval ea X.env) :: starEach es X.env := by rfl) (hpl : (backTo pos (starEach es X.env)).any (·.1) = false := by rfl) :
    DE Φ g W X (.Call (.Name x p) (ea :: es) [] pos) (.call fl k as) := by
  obtain ⟨lvl, fd, ps, hr, F, hk, hb⟩ := hE.ok k false n har
  refine PE.from (pe_callS F hr hg hm hk hb (fun σ => passAt tk σ) ha hdb hs hpl) fun σ H Q ⟨κ, O, e, R, h⟩ => ?_
  refine go_as R (Run.imp (Run.bind h) fun xs e1 _ k1 vs H1 R1 K1 V1 => ?_)
  obtain ⟨ds, hd, h2⟩ := Run.optB (k1 H1 K1)
  exact sp_of hE har hfl R1 (Keep.refl _ _) V1 hd (Run.imp h2 fun d e' _ k2 v H' R' K' G => k2 v H' R' (K1.trans K') (GotX.back G K1 R1.noO))
/-- f(l, ..), l a list of one's own that f may change -/
theorem de_callT (k i : Nat) {fl : Bool} {n : Nat} {x y : Str} {py : Pos} (hE : HeldX Φ fr g X) (tk : Takes X W) (ha : DA Φ g W X es as) (har : g.ar k = some (true, n) := by rfl) (hm : X.mg x = some (.ref (g.fa k)) := by rfl) (hg : Gl X x := by rfl) (hfl : fl = true → fr k = true := by intro z; first | rfl | cases z)
    (hN : X.N[i]? = some y := by rfl) (hv : Vis X.env.scope y := by first | exact Or.inl rfl | exact Or.inr (Or.inl rfl) | exact Or.inr (Or.inr rfl)) (hdy : (y == ("__debug__" : Str)) = false := by decide) (hcd : (y == ("__classdict__" : Str)) = false := by decide)
    (hdb : (x == ("__debug__" : Str)) = false := by decide) (hs : starEach (.Name y py :: es) X.env = (false, eval (.Name y py) X.env) :: starEach es X.env := by rfl) (hpl : (backTo pos (starEach es X.env)).any (·.1) = false := by rfl) :
    DE Φ g W X (.Call (.Name x p) (.Name y py :: es) [] pos) (.callT fl k i as) := by
  obtain ⟨lvl, fd, ps, hr, F, hk, hb⟩ := hE.ok k true n har
  refine PE.from (pe_callS F hr hg hm hk hb (fun σ => passAt tk σ) (pa_cons (pe_var (i := i) (pos := py) hN hv hdy hcd) ha hs) hdb hs hpl) fun σ H Q ⟨κ, O, e, R, h⟩ => ?_
  have h' : Run g κ O W σ H (match e[i]? with
    | some (.ow _) => (evAs Φ as e).bind fun xs e1 => (opt (vgets e1 xs) e1).bind fun ds e1 => if xs.any (isOw e1) then .bad else match e1[i]? with
      | some (.ow t) => (match Φ k (some t) ds with
        | .ok d (some t') => .ok d (e1.set i (.ow t'))
        | _ => .bad)
      | _ => .bad
    | _ => .bad) fun d e' => ∀ v H', Rel g κ O e' σ H' → Keep O H H' → GotX g κ O e' σ H H' v d fl → Q v H' := h
  cases z : e[i]? with
  | none => rw [z] at h'; exact h'.elim
  | some u =>
    rw [z] at h'
    cases u with
    | un => exact h'.elim
    | sh d => exact h'.elim
    | ow l0 =>
      obtain ⟨q, vs0, hq, _, _, _, _⟩ := R.ow i l0 z
      refine ⟨.ref q, hq, go_as R (Run.imp (Run.bind h') fun xs e1 _ k1 vs H1 R1 K1 V1 => ?_)⟩
      obtain ⟨ds, hd, h2⟩ := Run.optB (k1 H1 K1)
      obtain ⟨hno, h3⟩ := Run.iteN h2
      have dl := vrs_get R1 V1 hd (by simpa using hno)
      cases z1 : e1[i]? with
      | none => rw [z1] at h3; exact h3.elim
      | some u1 =>
        rw [z1] at h3
        cases u1 with
        | un => exact h3.elim
        | sh d => exact h3.elim
        | ow t =>
          obtain ⟨q', ws, hq', ho, hw, hz, dt⟩ := R1.ow i t z1
          rw [hq] at hq'
          cases hq'
          have nb : Φ k (some t) ds ≠ .bad := fun z => by
            have h4 : Run g κ O W σ H1 (match Φ k (some t) ds with
              | .ok d (some t') => Pv.R.ok d (e1.set i (.ow t'))
              | _ => .bad) _ := h3
            rw [z] at h4
            exact h4
          have hsh := hE.shape k (some t) ds nb
          rw [har] at hsh
          have hn : n = ds.length + 1 := by
            have := congrArg Prod.snd (Option.some.inj hsh)
            simpa using this
          have mm : ∀ a, ((κ.mk' O a ∧ a ≠ q) ∨ a = q) ↔ κ.mk' O a := fun a => ⟨fun z => z.elim (fun z => z.1) fun z => by rw [z]; exact .inr ho, fun z => by
            by_cases haq : a = q
            · exact .inr haq
            · exact .inl ⟨z, haq⟩⟩
          refine ⟨by rw [List.length_cons, dl.length, hn], fun a => κ.mk' O a ∧ a ≠ q, fun a => a = q, some t, ds, rfl, fun a z => R1.masked z.1, fun a z y => y.2 z, ⟨q, vs, ws, rfl, fun a => Iff.rfl, hw, hz, dt.mono (fun _ _ _ z => z) fun a _ z _ => (mm a).mp z, dl.mono (fun _ _ _ z => z) fun a _ z _ => (mm a).mp z⟩, ?_⟩
          have h4 : Run g κ O W σ H1 (match Φ k (some t) ds with
            | .ok d (some t') => Pv.R.ok d (e1.set i (.ow t'))
            | _ => .bad) _ := h3
          cases qf : Φ k (some t) ds with
          | bad => exact nb qf
          | ex c p => rw [qf] at h4; exact h4.elim
          | ok d t' =>
            rw [qf] at h4
            cases t' with
            | none => exact h4.elim
            | some t' =>
              intro v H' ext G
              obtain ⟨ws', hw', hz', dt'⟩ := G.tin q rfl
              obtain ⟨R', K'⟩ := R1.chg z1 hq (H' := H') (ws := ws') (l' := t') (fun a o n z => ext a o n z) hw' hz' (dt'.mono (fun _ _ _ z => z) fun a _ z _ => (mm a).mpr z)
              refine h4 v H' R' (K1.trans K') (GotX.back (H1 := H1) ⟨G.dat.mono (fun _ _ _ z => z) fun a _ z _ => (mm a).mpr z, fun f l ed => ?_⟩ K1 R1.noO)
              obtain ⟨p, ws2, a1, a2, a3, a4, a5, a6⟩ := G.new (hfl f) l ed
              have a5' : DatL g (fun a => κ.mk' O a ∨ a = p) H' ws2 l := a5.mono (fun _ _ _ z => z) fun a _ z _ => z.imp (mm a).mpr id
              refine ⟨p, ws2, a1, a2, a3, a4, a5', ?_⟩
              obtain ⟨ws3, hw3, hz3, dt3⟩ := a6 q rfl
              have hpq : p ≠ q := fun z => by rw [z, hw] at a2; cases a2
              refine ((R1.hide (xs := ws2) a2).chg z1 hq (H' := H') (ws := ws3) (l' := t') (fun a o n z => ?_) hw3 hz3 (dt3.mono (fun _ _ _ z => z) fun a _ z _ => ?_)).1
              · by_cases hap : a = p
                · rw [hap, upd_same] at z
                  rw [hap, a3]
                  exact z
                · rw [upd_ne hap] at z
                  exact ext a o n z
              · rcases z with (z | z) | z
                · rcases (mm a).mpr (.inl z) with y | y
                  · exact .inl (.inl y)
                  · exact .inr y
                · exact .inl (.inr z)
                · rcases (mm a).mpr (.inr z) with y | y
                  · exact .inl (.inl y)
                  · exact .inr y
def tCallV (Φ : Orc) (fr : Nat → Bool) (g : Gm) (E : L2.St → XK) (i : Nat) (t : TA) : TE := fun σ H Q => ∃ k n, σ[i]? = some (some (.ref (g.fa k))) ∧ g.ar k = some (false, n) ∧ t σ H fun vs H1 => spF g (Φ k) false (fr k) n vs H1 Q (E σ)
theorem pe_callV {i : Nat} {x : Str} {t : TA} (hE : HeldX Φ fr g X) (tk : Takes X W) (hN : X.N[i]? = some x) (hv : Vis X.env.scope x) (ha : PA X (ea :: es) t)
    (hdb : (x == ("__debug__" : Str)) = false := by decide) (hcd : (x == ("__classdict__" : Str)) = false := by decide)
    (he : starEach (ea :: es) X.env = (false, eval ea X.env) :: starEach es X.env := by rfl) (hpl : (backTo pos (starEach es X.env)).any (·.1) = false := by rfl) : PE X (.Call (.Name x p) (ea :: es) [] pos) (tCallV Φ fr g (WE W) i t) := by
  refine ⟨fun pins s σ H Q I h => ?_⟩
  obtain ⟨k, n, hs, har, ht⟩ := h
  obtain ⟨lvl, fd, ps, hr, F, hk, hb⟩ := hE.ok k false n har
  refine wpAny_Call_Name_kw (thn ((pe_var (pos := p) hN hv hdb hcd).run pins s σ H (fun v H1 => v = .ref (g.fa k) ∧ H1 = H) I ⟨.ref (g.fa k), hs, rfl, rfl⟩) fun u s1 ⟨v, H1, I1, r1, q1⟩ => ?_)
  obtain ⟨rfl, rfl⟩ := q1
  cases r1
  refine PySem.W.callWith_K (h₀ := X.base) I.ok.mod.kin hk (thn (ha.run pos pins s1 σ _ _ I1 ht) fun us s2 ⟨vs, H2, I2, r, q⟩ => ⟨I2.kIn, ?_⟩) he hpl
  exact run_fnS F hr hb (passAt tk σ) I2 r q
theorem Run.calmB {α β : Type} {r : Pv.R α} {f : α → Sl → Pv.R β} {k : β → Sl → Prop} (h : Run g κ O W σ H (r.calm.bind f) k) : (∃ a e, r = .ok a e) ∧ Run g κ O W σ H (r.bind f) k := by
  cases r with
  | ok a e => exact ⟨⟨a, e, rfl⟩, h⟩
  | ex c p e => exact h.elim
  | bad => exact h.elim
/-- d(..), d a slot that holds a def -/
theorem de_callV (i : Nat) {x : Str} (hE : HeldX Φ fr g X) (tk : Takes X W) (ha : DA Φ g W X (ea :: es) as) (hN : X.N[i]? = some x := by rfl) (hv : Vis X.env.scope x := by first | exact Or.inl rfl | exact Or.inr (Or.inl rfl) | exact Or.inr (Or.inr rfl))
    (hdb : (x == ("__debug__" : Str)) = false := by decide) (hcd : (x == ("__classdict__" : Str)) = false := by decide)
    (he : starEach (ea :: es) X.env = (false, eval ea X.env) :: starEach es X.env := by rfl) (hpl : (backTo pos (starEach es X.env)).any (·.1) = false := by rfl) : DE Φ g W X (.Call (.Name x p) (ea :: es) [] pos) (.callV i as) := by
  refine PE.from (pe_callV hE tk hN hv ha hdb hcd he hpl) fun σ H Q ⟨κ, O, e, R, h⟩ => ?_
  have h' : Run g κ O W σ H (match e[i]? with
    | some (.sh (.fn f)) => (evAs Φ as e).calm.bind fun xs e1 => (opt (vgets e1 xs) e1).bind fun ds e1 => frOf false e1 xs (Φ f none ds)
    | _ => .bad) fun d e' => ∀ v H', Rel g κ O e' σ H' → Keep O H H' → GotX g κ O e' σ H H' v d false → Q v H' := h
  cases z : e[i]? with
  | none => rw [z] at h'; exact h'.elim
  | some u =>
    rw [z] at h'
    cases u with
    | un => exact h'.elim
    | ow l => exact h'.elim
    | sh d =>
      cases d with
      | fn k =>
        obtain ⟨v, hv, dv⟩ := R.sh i _ z
        cases dv
        obtain ⟨⟨xs0, e0, hok⟩, h2⟩ := Run.calmB (r := evAs Φ as e) (f := fun xs e1 => (opt (vgets e1 xs) e1).bind fun ds e1 => frOf false e1 xs (Φ k none ds)) h'
        have h4 := h2
        rw [hok] at h4
        obtain ⟨ds0, hd0, h5⟩ := Run.optB (show Run g κ O W σ H ((opt (vgets e0 xs0) e0).bind fun ds e1 => frOf false e1 xs0 (Φ k none ds)) _ from h4)
        have har : ∃ n, g.ar k = some (false, n) := ⟨_, hE.shape k none ds0 fun z => by rw [z] at h5; exact h5⟩
        obtain ⟨n, har⟩ := har
        refine ⟨k, n, hv, har, go_as R (Run.imp (Run.bind h2) fun xs e1 _ k1 vs H1 R1 K1 V1 => ?_)⟩
        obtain ⟨ds, hd, h2⟩ := Run.optB (k1 H1 K1)
        exact sp_of hE har (fun z => by cases z) R1 (Keep.refl _ _) V1 hd (Run.imp h2 fun d e' _ k2 v H' R' K' G => k2 v H' R' (K1.trans K') (GotX.back G K1 R1.noO))
      | _ => exact h'.elim
end
end Pv

namespace Pv
open PySem PySem.Spec PyProof.Rows L2
open Sem (wp)

/-! ## 10. enumerate(tuple) -/
theorem meets_enumerate_new1B {v : Value} {o : Obj} {H : Heap → Prop} (B : Begins v o H) :
    Meets (Builtin.«enumerate.__new__» ⟨[.type "enumerate", v], []⟩) (fun _ R s => H s.heap ∧
      R (.ok (.ret (.ref (s.heap.push o).objs.size))) { s with heap := (s.heap.push o).push { cls := .type "enumerate", data := .fields #[.none, .bool false, .ref s.heap.objs.size, rawInt 0, .none, .none] } }) :=
  .of_wp fun prog w A R s h => by
    obtain ⟨hp, g, d, tk, os⟩ := s; obtain ⟨h1, h⟩ := h
    have hsub := sub_enumerate
    have q1 : ∀ {A' : Around} {E : Value → Shared → Prop} {Q : Value → Shared → Prop}, Q (.ref hp.objs.size) ⟨hp.push o, g, d, tk, os⟩ → wpAny (model prog w) A' (pyIter v) Q E ⟨hp, g, d, tk, os⟩ :=
      fun q => B.iter prog w _ _ ⟨hp, g, d, tk, os⟩ _ h1 q
    wp_walk using q1
    refine wpAny_stack_any fun st => wpAny_pure ?_
    split
    · rename_i c _ _ _ _ _
      cases (c == Value.type "enumerate")
      · wp_walk using q1
        exact ⟨_, rfl, h⟩
      · wp_walk using q1
        exact ⟨_, rfl, h⟩
    · wp_walk using q1
      exact ⟨_, rfl, h⟩
theorem enum_begins1 {prog : Program} {w : World} {A : Around} {E : Value → Shared → Prop} {s : Shared} {v : Value} {o : Obj} {H : Heap → Prop} {Q : Value → Shared → Prop} (B : Begins v o H) (h1 : H s.heap)
    (h : ∀ h', IsEnum h' (s.heap.objs.size + 1) s.heap.objs.size 0 .none → h'.get? s.heap.objs.size = some o → h'.objs.size = s.heap.objs.size + 2 →
      (∀ b o, s.heap.get? b = some o → h'.get? b = some o) → Q (.ref (s.heap.objs.size + 1)) { s with heap := h' }) :
    wpAny (model prog w) A (call (.type "enumerate") [v]) Q E s := by
  refine callType_new F.called_enumerate (by decide) (F.typeCall_enumerate_1 _) (F.newCall_enumerate_1 _) (fun obj => F.args_object_init_2 obj _) F.entry_enumerate_new
    (meets_enumerate_new1B B) ⟨h1, ?_⟩
  have hz : (s.heap.push o).objs.size = s.heap.objs.size + 1 := Heap.size_push ..
  show _ ∧ _
  rw [hz]
  have he : IsEnum ((s.heap.push o).push { cls := .type "enumerate", data := .fields #[.none, .bool false, .ref s.heap.objs.size, rawInt 0, .none, .none] }) (s.heap.objs.size + 1) s.heap.objs.size 0 .none := by
    have := Heap.get?_push_size (s.heap.push o) (o := { cls := .type "enumerate", data := .fields #[.none, .bool false, .ref s.heap.objs.size, rawInt 0, .none, .none] }) rfl
    rw [hz] at this; exact this
  refine ⟨⟨_, he, rfl⟩, h _ he (Heap.get?_push_of_some _ (Heap.get?_push_size _ B.free)) (by rw [Heap.size_push, hz]) fun b o x => Heap.get?_push_of_some _ (Heap.get?_push_of_some _ x)⟩
def IteT (K : PySem.W.Frag) (a : Addr) : L2.It :=
  ⟨fun i H => ∃ (xs : List V) (x : V), SqT K H a xs ∧ xs[i]? = some x, fun i H v H' => ∃ T x, v = .ref T ∧ H T = none ∧ H' = upd H T (.tup [.int (i : Nat), x]) ∧ ∀ xs, SqT K H a xs → xs[i]? = some x, fun i H => ∃ xs : List V, SqT K H a xs ∧ xs.length ≤ i⟩
theorem turn_enumT {P : Program} {w : World} {K : PySem.W.Frag} {elts : List Expr} {kk : Nat} {tpos : Pos} (a e it : Addr) :
    Turn P w K (.Tuple elts kk tpos) (IteT K a) [e, it] e (fun i h => (∃ old, IsEnum h e it ((i : Nat) : Int) old) ∧ h.IsTupleIter it a i ∧ e ≠ it ∧ a ≠ it ∧ a ≠ e) where
  mem := by simp
  obj := fun i h st b hb => by
    obtain ⟨⟨old, he⟩, ⟨o, ho, hc, hd⟩, _⟩ := st
    have e' : b = e ∨ b = it := by simpa using hb
    rcases e' with z | z
    · rw [z]; exact ⟨_, he, fun v q => nomatch q⟩
    · rw [z]; exact ⟨o, ho, fun v q => by rw [hd] at q; cases q⟩
  keep := fun i h h' st k => let ⟨⟨old, he⟩, hi, hne⟩ := st; ⟨⟨old, k e (by simp) _ he⟩, hi.at fun o q => k it (by simp) o q, hne⟩
  item := by
    intro X hP hw hK hc i pins s σ H E I hf st hg
    subst hP hw hK
    obtain ⟨⟨old, he⟩, hit, hne, hn2, hn3⟩ := st
    obtain ⟨xs, x, hq, hx⟩ := hg
    obtain ⟨its, rv, p, hz⟩ := I.tuple hq
    obtain ⟨u, hu, ru⟩ := rv.get hx
    have hel : e < s.heap.objs.size := Heap.lt_size he
    have hil : it < s.heap.objs.size := by obtain ⟨_, q, _⟩ := hit; exact Heap.lt_size q
    have hlt : i < its.toArray.size := by
      rw [List.size_toArray]
      exact (List.getElem?_eq_some_iff.mp hu).1
    have D := Draws.tuple (prog := X.prog) (w := X.w) (A := X.A.in1) (show X.A.in1.handled = none from I.ok.hd hc) it a hn2 its.toArray
    refine wpAny_pyNext_enum_itemD D he ⟨hit, p⟩ hlt hne (by simp; exact ⟨hne, Ne.symm hn3⟩) fun y h' tk hP ho hst hT hsz hk => ?_
    have hy : y = u := by
      rw [List.getElem?_toArray, hu] at hP
      exact (Option.some.inj hP).symm
    subst hy
    refine ⟨_, rfl, wpAny_letOwnedTupleGo_enum (s := { s with heap := h', toks := tk + 1 }) ho fun h'' he' sb => ?_⟩
    have hT2 : h''.get? s.heap.objs.size = some { cls := .type "tuple", data := .seq #[.int i tk, y] } := (sb.2 _ (Nat.ne_of_gt hel)).trans hT
    have new : ObjOk X.prog X.w (upd H s.heap.objs.size (.tup [.int (i : Nat), x])) h'' s.heap.objs.size (.tup [.int (i : Nat), x]) :=
      ⟨by show 2 ≤ sizeLine; decide, [.int i tk, y], .cons ⟨_, rfl⟩ (.cons ru .nil), ⟨_, hT2, rfl, _, rfl⟩⟩
    have I1 : Inv X pins σ (upd H s.heap.objs.size (.tup [.int (i : Nat), x])) { s with heap := h'', toks := tk + 1 } :=
      I.turnedNew (ch := [e, it]) (fun b ob hb q => (sb.2 b (fun z => hb (by simp [z]))).trans (hk b ob (fun z => hb (by simp [z])) (fun z => hb (by simp [z])) q)) hf (Nat.le_refl _) new
    refine ⟨.ref s.heap.objs.size, _, I1, rfl, ⟨_, x, rfl, I.hok.fresh (Nat.le_refl _), rfl, fun ys hy => by rw [I.tuple_inj hy hq]; exact hx⟩, ⟨⟨y, ?_⟩, hst.1.at fun o q => (sb.2 it (Ne.symm hne)).trans q, hne, hn2, hn3⟩, fun b hb => ?_⟩
    · have e1 : ((i + 1 : Nat) : Int) = (i : Int) + 1 := by omega
      rw [e1]; exact he'
    · have hb' : b < s.heap.objs.size := by
        have e' : b = e ∨ b = it := by simpa using hb
        rcases e' with z | z
        · rw [z]; exact hel
        · rw [z]; exact hil
      rw [upd_ne (Nat.ne_of_lt hb')]
      exact (hf b hb).1
  done := by
    intro X hP hw hK hc i pins s σ H E I hf st hg
    subst hP hw hK
    obtain ⟨⟨old, he⟩, hit, hne, hn2, hn3⟩ := st
    obtain ⟨xs, hq, hx⟩ := hg
    obtain ⟨its, rv, p, hz⟩ := I.tuple hq
    obtain ⟨f0, f1, f2, f3, f4, f5⟩ := hf it (by simp)
    have hl := rv.length
    have hT : s.TypeIs (.ref e) "enumerate" := ⟨_, he, rfl⟩
    unfold pyNext
    refine wpAny_bind (wpAny_attempt (wpAny_callSpecial?_slot (name := Str.ofString "__next__") hT F.slot_enumerate_next
      (wpAny_call_entry F.slot_enumerate_next hT F.entry_enumerate_next ?_ (F.args_enumerate_next_1 _))))
    show wpAny _ _ (field (.ref e) 2 >>= _) _ _ _
    refine wpAny_bind (wpAny_field he rfl (x := .ref it) rfl ?_)
    refine wpAny_bind (wpAny_nextOf_tuple_end (items := its.toArray) (show X.A.in1.handled = none from I.ok.hd hc) hit p (by simp; omega) fun h' x he' hx' => ?_)
    obtain ⟨o, ho, hcl⟩ := hx'
    refine wpAny_bind (wpAny_isInstance (T := "StopIteration") (b := true) ⟨o, ho, hcl⟩ isSubtype_stop ?_)
    exact wpAny_pure ⟨rfl, I.turned (t' := s.toks) (fun b o hb q => he' b o hb q) f0 f1 f3 f4 f5⟩
  self := fun A i s Q E st h => let ⟨⟨_, he⟩, _⟩ := st; wpAny_pyIter_enum he h
def iEnumA (K : PySem.W.Frag) (ta : TA) : TI := fun σ H R => ta σ H fun vs H1 => ∃ a xs, vs = [.ref a] ∧ ((SqL K H1 a xs ∧ R (Ite K a) H1) ∨ (SqT K H1 a xs ∧ R (IteT K a) H1))
theorem pi_enumA {X : Cx} {e : Expr} {ta : TA} {p pos tpos : Pos} {elts : List Expr} {kk : Nat} (hg : Gl X "enumerate") (hm : X.mg "enumerate" = none) (ha : PA X [e] ta) (hs : starEach [e] X.env = [(false, eval e X.env)] := by rfl) :
    PI X (.Tuple elts kk tpos) (.Call (.Name "enumerate" p) [e] [] pos) (iEnumA X.K ta) := by
  refine ⟨fun pins s σ H R I h => ?_⟩
  refine Call_ (ld_blt I hg hm boot_enumerate (PyProof.Rows.callWith_type1 (thn (ha.run pos pins s σ H _ I h) fun us s1 ⟨vs, H1, I1, r1, q1⟩ => ?_) hs rfl))
  obtain ⟨a, xs, ex, q1⟩ := q1
  subst ex
  cases r1 with
  | cons r rr =>
    cases rr
    cases r
    have fr2 : ∀ b ∈ [s1.heap.objs.size + 1, s1.heap.objs.size], FpOk X pins H1 b := fun b hb => by
      have e' : b = s1.heap.objs.size + 1 ∨ b = s1.heap.objs.size := by simpa using hb
      have hle : s1.heap.objs.size ≤ b := by
        rcases e' with z | z
        · rw [z]; exact Nat.le_add_right _ _
        · rw [z]; exact Nat.le_refl _
      exact I1.fpOk hle (I1.hok.fresh hle)
    rcases q1 with ⟨hq, q⟩ | ⟨hq, q⟩
    · obtain ⟨its, rv, p', hz⟩ := I1.list hq
      refine call_enumerate_list p'.isList fun h' he hit hsz hk => wpAny_pyIter_enum he ?_
      have I2 : Inv X pins σ H1 { s1 with heap := h' } := I1.kept (t' := s1.toks) hk
      exact ⟨s1.heap.objs.size + 1, [s1.heap.objs.size + 1, s1.heap.objs.size], _, _, H1, rfl, I2, turn_enum a (s1.heap.objs.size + 1) s1.heap.objs.size, ⟨⟨.none, he⟩, hit, Nat.succ_ne_self _⟩, fr2, q⟩
    · obtain ⟨its, rv, p', hz⟩ := I1.tuple hq
      have hlt : a < s1.heap.objs.size := by obtain ⟨_, z, _⟩ := id p'; exact Heap.lt_size z
      refine enum_begins1 (begins_tuple a its.toArray) p' fun h' he hit hsz hk => wpAny_pyIter_enum he ?_
      have I2 : Inv X pins σ H1 { s1 with heap := h' } := I1.kept (t' := s1.toks) hk
      exact ⟨s1.heap.objs.size + 1, [s1.heap.objs.size + 1, s1.heap.objs.size], _, _, H1, rfl, I2, turn_enumT a (s1.heap.objs.size + 1) s1.heap.objs.size, ⟨⟨.none, he⟩, ⟨_, hit, rfl, rfl⟩, Nat.succ_ne_self _, Nat.ne_of_lt hlt, Nat.ne_of_lt (Nat.lt_succ_of_lt hlt)⟩, fr2, q⟩
def iSeq (K : PySem.W.Frag) (tl : TE) : TI := fun σ H R => tl σ H fun x H1 => ∃ a xs, x = .ref a ∧ ((SqL K H1 a xs ∧ R (Itl K a) H1) ∨ (SqT K H1 a xs ∧ R (Itt K a) H1))
theorem pi_seq {X : Cx} {tg l : Expr} {tl : TE} (hl : PE X l tl) : PI X tg l (iSeq X.K tl) := by
  refine ⟨fun pins s σ H R I h => ?_⟩
  refine thn (hl.run pins s σ H _ I h) fun v s1 ⟨x, H1, I1, r1, q1⟩ => ?_
  obtain ⟨a, xs, e, q1⟩ := q1
  subst e
  cases r1
  have fr1 : ∀ b ∈ [s1.heap.objs.size], FpOk X pins H1 b := fun b hb => by
    have e : b = s1.heap.objs.size := by simpa using hb
    subst e
    exact I1.fpOk (Nat.le_refl _) (I1.hok.fresh (Nat.le_refl _))
  rcases q1 with ⟨hq, q⟩ | ⟨hq, q⟩
  · obtain ⟨its, rv, p, hz⟩ := I1.list hq
    refine wpAny_pyIter_list p.isList ?_
    exact ⟨s1.heap.objs.size, [s1.heap.objs.size], _, _, H1, rfl, I1.kept (t' := s1.toks) fun b o e => Heap.get?_push_of_some _ e, turn_list a _, ⟨_, Heap.get?_push_size _ rfl, rfl, rfl⟩, fr1, q⟩
  · obtain ⟨its, rv, p, hz⟩ := I1.tuple hq
    refine wpAny_pyIter_tuple (show s1.heap.IsTuple a its.toArray from p) ?_
    exact ⟨s1.heap.objs.size, [s1.heap.objs.size], _, _, H1, rfl, I1.kept (t' := s1.toks) fun b o e => Heap.get?_push_of_some _ e, turn_tuple a _, ⟨_, Heap.get?_push_size _ rfl, rfl, rfl⟩, fr1, q⟩
end Pv

namespace Pv
open PySem PySem.Spec PyProof.Rows L2

/-! ## 11. targets, what is walked -/
def gList : List Nat → TGs
  | [] => gNil
  | i :: l => gCons (gName i) (gList l)
def gOf (K : PySem.W.Frag) : Tg → TG
  | .n i => gName i
  | .ts l => gTup K l.length (gList l)
def Tg.sl : Tg → List Nat
  | .n i => [i]
  | .ts l => l
abbrev DTg (g : Gm) (X : Cx) (e : Expr) (t : Tg) : Prop := PG X e (gOf g.K t)
section
variable {Φ : Orc} {g : Gm} {W : WX} {X : Cx} {κ : Kp} {O : Addr → Prop} {σ : L2.St} {H : Hp} {e : Sl} {as : As} {ea eb : Expr} {es : List Expr} {pos p : Pos}
theorem dtg_n (i : Nat) {x : Str} (hN : X.N.Nodup) (hi : X.N[i]? = some x := by rfl) (hx : Loc X.env.scope x := by first | exact Or.inl rfl | exact Or.inr rfl) (hf : X.fn x = true ∨ X.env.scope.names.lookup x = some .local := by first | exact .inl rfl | exact .inr rfl) : DTg g X (.Name x pos) (.n i) := pg_name hN hi hx hf
theorem dtgs_nil : PGs X [] (gList []) := pgs_nil
theorem dtgs_cons (i : Nat) {x : Str} {l : List Nat} (h : PGs X es (gList l)) (hN : X.N.Nodup) (hi : X.N[i]? = some x := by rfl) (hx : Loc X.env.scope x := by first | exact Or.inl rfl | exact Or.inr rfl) (hf : X.fn x = true ∨ X.env.scope.names.lookup x = some .local := by first | exact .inl rfl | exact .inr rfl)
    (hs : assignEach (.Name x pos :: es) X.env = (false, assign (.Name x pos) X.env) :: assignEach es X.env := by rfl) : PGs X (.Name x pos :: es) (gList (i :: l)) := pgs_cons (pg_name hN hi hx hf) h
theorem dtg_ts {l : List Nat} {k : Nat} (hK : X.K = g.K) (hc : X.calm = true) (h : PGs X es (gList l)) (hn : (assignEach es X.env).length = l.length := by rfl) (hst : (assignEach es X.env).findIdx? (·.1) = none := by rfl) : DTg g X (.Tuple es k pos) (.ts l) := by
  show PG X _ (gTup g.K l.length (gList l))
  rw [← hK]
  exact pg_tup hc h hn hst
theorem wipe_set {v : Option V} : ∀ {vs : List Nat} {σ : L2.St} {i : Nat}, i ∈ vs → L2.wipe (σ.set i v) vs = L2.wipe σ vs
  | [], _, _, h => by cases h
  | j :: vs, σ, i, h => by
    show (L2.wipe (σ.set i v) vs).set j none = (L2.wipe σ vs).set j none
    by_cases hi : i ∈ vs
    · rw [wipe_set hi]
    · have hj : i = j := by
        rcases List.mem_cons.mp h with z | z
        · exact z
        · exact absurd z hi
      subst hj
      apply List.ext_getElem?
      intro k
      by_cases hk : i = k
      · subst hk
        by_cases hlt : i < σ.length
        · rw [List.getElem?_set_self (by rw [wipe_length, List.length_set]; exact hlt), List.getElem?_set_self (by rw [wipe_length]; exact hlt)]
        · rw [List.getElem?_eq_none (by rw [List.length_set, wipe_length, List.length_set]; omega), List.getElem?_eq_none (by rw [List.length_set, wipe_length]; omega)]
      · rw [List.getElem?_set_ne hk, List.getElem?_set_ne hk]
        by_cases hkv : k ∈ vs
        · have wi : ∀ (τ : L2.St) (vs : List Nat), k ∈ vs → (L2.wipe τ vs)[k]? = if k < τ.length then some none else none := by
            intro τ vs
            induction vs with
            | nil => intro h; cases h
            | cons a vs ih =>
              intro h
              show ((L2.wipe τ vs).set a none)[k]? = _
              by_cases ha : a = k
              · subst ha
                by_cases hl : a < τ.length
                · rw [List.getElem?_set_self (by rw [wipe_length]; exact hl), if_pos hl]
                · rw [List.getElem?_eq_none (by rw [List.length_set, wipe_length]; omega), if_neg hl]
              · rw [List.getElem?_set_ne ha]
                rcases List.mem_cons.mp h with z | z
                · exact absurd z.symm ha
                · exact ih z
          rw [wi _ _ hkv, wi _ _ hkv, List.length_set]
        · rw [wipe_out' hkv, wipe_out' hkv, List.getElem?_set_ne hk]
theorem put1_ok {i : Nat} {d : D} {e' : Sl} (h : put1 e i d = some e') : i < e.length ∧ (∀ l, e[i]? ≠ some (Ent.ow l)) ∧ e' = e.set i (.sh d) := by
  have h' : (match e[i]? with
    | some (.ow _) => none
    | some _ => some (e.set i (.sh d))
    | none => none) = some e' := h
  cases q : e[i]? with
  | none => rw [q] at h'; cases h'
  | some u =>
    rw [q] at h'
    have hlt := (List.getElem?_eq_some_iff.mp q).1
    cases u with
    | ow l => cases h'
    | un => cases h'; exact ⟨hlt, (fun l z => by cases z), rfl⟩
    | sh d => cases h'; exact ⟨hlt, (fun l z => by cases z), rfl⟩
theorem go_tgs : ∀ {l : List Nat} {ds : List D} {xs : List V} {e : Sl} {σ : L2.St} {e' : Sl} (R : Rel g κ O e σ H) (h : puts e l ds = some e') (dx : DatL g (κ.mk' O) H xs ds) {Q : L2.St → Hp → Prop}
    (q : ∀ σ', Rel g κ O e' σ' H → (∀ vs : List Nat, (∀ i ∈ l, i ∈ vs) → L2.wipe σ' vs = L2.wipe σ vs) → Q σ' H), gList l xs σ H Q
  | [], [], _, e, σ, e', R, h, dx, Q, q => by
    cases h
    cases dx
    exact ⟨rfl, q σ R fun _ _ => rfl⟩
  | i :: l, d :: ds, _, e, σ, e', R, h, dx, Q, q => by
    cases dx with
    | cons dv dr =>
      have h' : ((put1 e i d).bind fun e' => puts e' l ds) = some e' := h
      cases q1 : put1 e i d with
      | none => rw [q1] at h'; cases h'
      | some e1 =>
        rw [q1] at h'
        obtain ⟨h1, h2, rfl⟩ := put1_ok q1
        refine ⟨_, _, rfl, go_tgs (R.put h1 h2 dv) h' dr fun σ' R' w => q σ' R' fun vs hv => ?_⟩
        rw [w vs fun j hj => hv j (List.mem_cons_of_mem _ hj), wipe_set (hv i List.mem_cons_self)]
  | [], _ :: _, _, _, _, _, _, h, _, _, _ => by cases h
  | _ :: _, [], _, _, _, _, _, h, _, _, _ => by cases h
theorem puts_len : ∀ {l : List Nat} {ds : List D} {e e' : Sl}, puts e l ds = some e' → l.length = ds.length
  | [], [], _, _, _ => rfl
  | i :: l, d :: ds, e, e', h => by
    have h' : ((put1 e i d).bind fun e' => puts e' l ds) = some e' := h
    cases q1 : put1 e i d with
    | none => rw [q1] at h'; cases h'
    | some e1 =>
      rw [q1] at h'
      rw [List.length_cons, List.length_cons, puts_len h']
  | [], _ :: _, _, _, h => by cases h
  | _ :: _, [], _, _, h => by cases h
theorem go_tg {t : Tg} {d : D} {v : V} {e' : Sl} (R : Rel g κ O e σ H) (h : put e t d = some e') (dx : Dat g (κ.mk' O) H v d) {Q : L2.St → Hp → Prop}
    (q : ∀ σ', Rel g κ O e' σ' H → (∀ vs : List Nat, (∀ i ∈ t.sl, i ∈ vs) → L2.wipe σ' vs = L2.wipe σ vs) → Q σ' H) : gOf g.K t v σ H Q := by
  cases t with
  | n i =>
    obtain ⟨h1, h2, rfl⟩ := put1_ok (show put1 e i d = some e' from h)
    exact q _ (R.put h1 h2 dx) fun vs hv => wipe_set (hv i List.mem_cons_self)
  | ts l =>
    cases d with
    | tup ds =>
      cases dx with
      | tup hp hn hz dl => exact ⟨_, _, rfl, SqT.of hp, by rw [dl.length, puts_len h], go_tgs R h dl q⟩
    | _ => cases h

/-- an iterator that hands out the data l, wherever the heap has grown to -/
def ItOk (g : Gm) (l : List D) (J : L2.It) (m0 : Addr → Prop) (H0 : Hp) : Prop :=
  ∀ (i : Nat) (m : Addr → Prop) (H : Hp), (∀ a o, ¬ m0 a → H0 a = some o → H a = some o) → (∀ a, m a → m0 a ∨ H0 a = none) → (∀ a, m a → H a ≠ none) →
    (∀ d, l[i]? = some d → J.go i H ∧ ∀ x H', J.yld i H x H' → (∀ a o, H a = some o → H' a = some o) ∧ Dat g m H' x d) ∧ (l.length ≤ i → J.stop i H)
def tI (Φ : Orc) (g : Gm) (W : WX) (c : It) : TI := fun σ H T => ∃ κ O e, Rel g κ O e σ H ∧ Run g κ O W σ H (evI Φ c e) fun l e' => ∀ J H', Rel g κ O e' σ H' → Keep O H H' → ItOk g l J (κ.mk' O) H' → T J H'
abbrev DI (Φ : Orc) (g : Gm) (W : WX) (X : Cx) (tg e : Expr) (c : It) : Prop := PI X tg e (tI Φ g W c)
theorem PI.from {X : Cx} {tg e : Expr} {t t' : TI} (h : PI X tg e t) (i : ∀ σ H Q, t' σ H Q → t σ H Q) : PI X tg e t' := ⟨fun pins s σ H Q I q => h.run pins s σ H Q I (i σ H Q q)⟩
theorem laterL {m m0 : Addr → Prop} {d : List D} {v : List V} {H0 : Hp} (h : DatL g m0 H0 v d) (K : ∀ a o, ¬ m0 a → H0 a = some o → H a = some o) (ho : ∀ a, m a → m0 a ∨ H0 a = none) : DatL g m H v d :=
  h.mono K fun a o z e => (ho a z).elim id fun y => by rw [e] at y; cases y
/-- a list or a tuple that stands -/
theorem seq_ok {m : Addr → Prop} {v : V} {d : D} {l : List D} (h : Dat g m H v d) (hl : items d = some l) : ∃ a xs, v = .ref a ∧ (H a = some (.lst xs) ∨ H a = some (.tup xs)) ∧ ¬ m a ∧ DatL g m H xs l := by
  cases d with
  | lst l' =>
    cases hl
    cases h with
    | lst a b c d => exact ⟨_, _, rfl, .inl a, b, d⟩
  | tup l' =>
    cases hl
    cases h with
    | tup a b c d => exact ⟨_, _, rfl, .inr a, b, d⟩
  | _ => cases hl
theorem itl_ok {K : PySem.W.Frag} {m0 : Addr → Prop} {a : Addr} {xs : List V} {l : List D} (h : H a = some (.lst xs)) (n : ¬ m0 a) (dl : DatL g m0 H xs l) : ItOk g l (Itl K a) m0 H := by
  intro i m H1 K1 ho nn
  have h1 : H1 a = some (.lst xs) := K1 a _ n h
  have d1 := laterL (m := m) dl K1 ho
  refine ⟨fun d hd => ?_, fun hi => ⟨xs, SqL.of h1, by rw [dl.length]; exact hi⟩⟩
  obtain ⟨v, hv, dv⟩ := d1.get hd
  refine ⟨⟨xs, v, SqL.of h1, hv⟩, fun x H' ⟨e, q⟩ => ?_⟩
  subst e
  have := q xs (SqL.of h1)
  rw [hv] at this
  cases this
  exact ⟨fun _ _ z => z, dv⟩
theorem itt_ok {K : PySem.W.Frag} {m0 : Addr → Prop} {a : Addr} {xs : List V} {l : List D} (h : H a = some (.tup xs)) (n : ¬ m0 a) (dl : DatL g m0 H xs l) : ItOk g l (Itt K a) m0 H := by
  intro i m H1 K1 ho nn
  have h1 : H1 a = some (.tup xs) := K1 a _ n h
  have d1 := laterL (m := m) dl K1 ho
  refine ⟨fun d hd => ?_, fun hi => ⟨xs, SqT.of h1, by rw [dl.length]; exact hi⟩⟩
  obtain ⟨v, hv, dv⟩ := d1.get hd
  refine ⟨⟨xs, v, SqT.of h1, hv⟩, fun x H' ⟨e, q⟩ => ?_⟩
  subst e
  have := q xs (SqT.of h1)
  rw [hv] at this
  cases this
  exact ⟨fun _ _ z => z, dv⟩
theorem rng_get {lo hi : Int} {i : Nat} {d : D} (h : (rng lo hi)[i]? = some d) : i < (hi - lo).toNat ∧ d = .int (lo + (i : Nat)) := by
  unfold rng at h
  rw [List.getElem?_map] at h
  cases q : (List.range (hi - lo).toNat)[i]? with
  | none => rw [q] at h; cases h
  | some j =>
    rw [q] at h
    obtain ⟨h1, h2⟩ := List.getElem?_eq_some_iff.mp q
    rw [List.getElem_range] at h2
    rw [List.length_range] at h1
    subst h2
    exact ⟨h1, (Option.some.inj h).symm⟩
theorem itr_ok {m0 : Addr → Prop} (lo hi : Int) : ItOk g (rng lo hi) (Itr lo (hi - lo).toNat) m0 H := by
  intro i m H1 K1 ho nn
  refine ⟨fun d hd => ?_, fun hi => by rw [rg_len] at hi; exact hi⟩
  obtain ⟨h1, rfl⟩ := rng_get hd
  refine ⟨h1, fun x H' ⟨e, q⟩ => ?_⟩
  subst e q
  exact ⟨fun _ _ z => z, .int _⟩
theorem enumD_get : ∀ {l : List D} {k i : Nat} {d : D}, (enumD k l)[i]? = some d → ∃ x, l[i]? = some x ∧ d = .tup [.int ((k + i : Nat) : Int), x]
  | [], _, _, _, h => by cases h
  | x :: l, k, 0, d, h => by
    have h' : some (D.tup [.int (k : Nat), x]) = some d := h
    cases h'
    exact ⟨x, rfl, rfl⟩
  | x :: l, k, i + 1, d, h => by
    have h' : (enumD (k + 1) l)[i]? = some d := by simpa [enumD] using h
    obtain ⟨y, h1, h2⟩ := enumD_get h'
    refine ⟨y, by simpa using h1, ?_⟩
    rw [h2]
    have : k + 1 + i = k + (i + 1) := by omega
    rw [this]
theorem enumD_len : ∀ (l : List D) (k : Nat), (enumD k l).length = l.length
  | [], _ => rfl
  | x :: l, k => by
    show (enumD (k + 1) l).length + 1 = l.length + 1
    rw [enumD_len l]
theorem zipD_get : ∀ {l r : List D} {i : Nat} {d : D}, (zipD l r)[i]? = some d → ∃ x y, l[i]? = some x ∧ r[i]? = some y ∧ d = .tup [x, y]
  | [], _, _, _, h => by simp [zipD] at h
  | _ :: _, [], _, _, h => by simp [zipD] at h
  | x :: l, y :: r, 0, d, h => by
    have h' : some (D.tup [x, y]) = some d := h
    cases h'
    exact ⟨x, y, rfl, rfl, rfl⟩
  | x :: l, y :: r, i + 1, d, h => by
    have h' : (zipD l r)[i]? = some d := by simpa [zipD] using h
    obtain ⟨a, b, h1, h2, h3⟩ := zipD_get h'
    exact ⟨a, b, by simpa using h1, by simpa using h2, h3⟩
theorem zipD_len : ∀ (l r : List D), (zipD l r).length = min l.length r.length
  | [], r => by simp [zipD]
  | x :: l, [] => by simp [zipD]
  | x :: l, y :: r => by
    show (zipD l r).length + 1 = min (l.length + 1) (r.length + 1)
    rw [zipD_len l r]
    omega
theorem new_pair {m : Addr → Prop} {T : Addr} {x y : V} {d d' : D} (hT : H T = none) (nn : ∀ a, m a → H a ≠ none) (hx : Dat g m H x d) (hy : Dat g m H y d') : Dat g m (upd H T (.tup [x, y])) (.ref T) (.tup [d, d']) :=
  .tup upd_same (fun z => nn _ z hT) (by show 2 ≤ sizeLine; decide) (.cons (hx.mono (fun _ _ _ e => ext_upd hT _ _ e) fun _ _ z _ => z) (.cons (hy.mono (fun _ _ _ e => ext_upd hT _ _ e) fun _ _ z _ => z) .nil))
theorem ite_ok {K : PySem.W.Frag} {m0 : Addr → Prop} {a : Addr} {xs : List V} {l : List D} (h : H a = some (.lst xs)) (n : ¬ m0 a) (dl : DatL g m0 H xs l) : ItOk g (enumD 0 l) (Ite K a) m0 H := by
  intro i m H1 K1 ho nn
  have h1 : H1 a = some (.lst xs) := K1 a _ n h
  have d1 := laterL (m := m) dl K1 ho
  refine ⟨fun d hd => ?_, fun hi => ⟨xs, SqL.of h1, by rw [enumD_len] at hi; rw [dl.length]; exact hi⟩⟩
  obtain ⟨d, hd3, rfl⟩ := enumD_get hd
  obtain ⟨v, hv, dv⟩ := d1.get hd3
  refine ⟨⟨xs, v, SqL.of h1, hv⟩, fun x H' ⟨T, y, e, hT, e2, q⟩ => ?_⟩
  have := q xs (SqL.of h1)
  rw [hv] at this
  cases this
  subst e e2
  refine ⟨fun _ _ z => ext_upd hT _ _ z, ?_⟩
  rw [Nat.zero_add]
  exact new_pair hT nn (.int _) dv
theorem iteT_ok {K : PySem.W.Frag} {m0 : Addr → Prop} {a : Addr} {xs : List V} {l : List D} (h : H a = some (.tup xs)) (n : ¬ m0 a) (dl : DatL g m0 H xs l) : ItOk g (enumD 0 l) (IteT K a) m0 H := by
  intro i m H1 K1 ho nn
  have h1 : H1 a = some (.tup xs) := K1 a _ n h
  have d1 := laterL (m := m) dl K1 ho
  refine ⟨fun d hd => ?_, fun hi => ⟨xs, SqT.of h1, by rw [enumD_len] at hi; rw [dl.length]; exact hi⟩⟩
  obtain ⟨d, hd3, rfl⟩ := enumD_get hd
  obtain ⟨v, hv, dv⟩ := d1.get hd3
  refine ⟨⟨xs, v, SqT.of h1, hv⟩, fun x H' ⟨T, y, e, hT, e2, q⟩ => ?_⟩
  have := q xs (SqT.of h1)
  rw [hv] at this
  cases this
  subst e e2
  refine ⟨fun _ _ z => ext_upd hT _ _ z, ?_⟩
  rw [Nat.zero_add]
  exact new_pair hT nn (.int _) dv
theorem itz_ok {K : PySem.W.Frag} {m0 : Addr → Prop} {a b : Addr} {xs ys : List V} {l r : List D} (h : H a = some (.lst xs)) (n : ¬ m0 a) (dl : DatL g m0 H xs l) (h' : H b = some (.lst ys)) (n' : ¬ m0 b) (dr : DatL g m0 H ys r) : ItOk g (zipD l r) (Itz K a b) m0 H := by
  intro i m H1 K1 ho nn
  have h1 : H1 a = some (.lst xs) := K1 a _ n h
  have h2 : H1 b = some (.lst ys) := K1 b _ n' h'
  have d1 := laterL (m := m) dl K1 ho
  have d2 := laterL (m := m) dr K1 ho
  refine ⟨fun d hd => ?_, fun hi => ⟨xs, ys, SqL.of h1, SqL.of h2, by rw [zipD_len] at hi; rw [dl.length, dr.length]; omega⟩⟩
  obtain ⟨d, d', hd3, hd', rfl⟩ := zipD_get hd
  obtain ⟨v, hv, dv⟩ := d1.get hd3
  obtain ⟨w, hw, dw⟩ := d2.get hd'
  refine ⟨⟨xs, ys, v, w, SqL.of h1, SqL.of h2, hv, hw⟩, fun x H' ⟨T, y, y', e, hT, e2, q, q'⟩ => ?_⟩
  have := q xs (SqL.of h1)
  rw [hv] at this
  cases this
  have := q' ys (SqL.of h2)
  rw [hw] at this
  cases this
  subst e e2
  exact ⟨fun _ _ z => ext_upd hT _ _ z, new_pair hT nn dv dw⟩
theorem itzT_ok {K : PySem.W.Frag} {m0 : Addr → Prop} {a b : Addr} {xs ys : List V} {l r : List D} (h : H a = some (.tup xs)) (n : ¬ m0 a) (dl : DatL g m0 H xs l) (h' : H b = some (.tup ys)) (n' : ¬ m0 b) (dr : DatL g m0 H ys r) : ItOk g (zipD l r) (RZ.ItzT K a b) m0 H := by
  intro i m H1 K1 ho nn
  have h1 : H1 a = some (.tup xs) := K1 a _ n h
  have h2 : H1 b = some (.tup ys) := K1 b _ n' h'
  have d1 := laterL (m := m) dl K1 ho
  have d2 := laterL (m := m) dr K1 ho
  refine ⟨fun d hd => ?_, fun hi => ⟨xs, ys, SqT.of h1, SqT.of h2, by rw [zipD_len] at hi; rw [dl.length, dr.length]; omega⟩⟩
  obtain ⟨d, d', hd3, hd', rfl⟩ := zipD_get hd
  obtain ⟨v, hv, dv⟩ := d1.get hd3
  obtain ⟨w, hw, dw⟩ := d2.get hd'
  refine ⟨⟨xs, ys, v, w, SqT.of h1, SqT.of h2, hv, hw⟩, fun x H' ⟨T, y, y', e, hT, e2, q, q'⟩ => ?_⟩
  have := q xs (SqT.of h1)
  rw [hv] at this
  cases this
  have := q' ys (SqT.of h2)
  rw [hw] at this
  cases this
  subst e e2
  exact ⟨fun _ _ z => ext_upd hT _ _ z, new_pair hT nn dv dw⟩
variable {a b : Ag} {tg : Expr} {c1 c2 : C}
theorem di_c (hK : X.K = g.K) (ha : DG Φ g W X ea a) : DI Φ g W X tg ea (.c a) := by
  refine PI.from (pi_seq ha) fun σ H Q ⟨κ, O, e, R, h⟩ => ?_
  refine go_g R (Run.imp (Run.bind h) fun x e1 _ k1 v H1 R1 K1 V1 => ?_)
  obtain ⟨hno, h2⟩ := Run.iteN (k1 H1 K1)
  obtain ⟨d, hd, h3⟩ := Run.optB h2
  obtain ⟨l, hl, h4⟩ := Run.opt h3
  have dv := (V1.get R1 hd).2 (by simpa using hno)
  obtain ⟨p, xs, rfl, hp, hn, dl⟩ := seq_ok dv hl
  rcases hp with hp | hp
  · exact ⟨p, xs, rfl, .inl ⟨SqL.of hp, h4 _ H1 R1 K1 (itl_ok hp hn dl)⟩⟩
  · exact ⟨p, xs, rfl, .inr ⟨SqT.of hp, h4 _ H1 R1 K1 (itt_ok hp hn dl)⟩⟩
theorem di_enum {k : Nat} {pt : Pos} {elts : List Expr} (ha : DG Φ g W X ea a) (hm : X.mg "enumerate" = none := by rfl) (hg : Gl X "enumerate" := by rfl) (hs : starEach [ea] X.env = [(false, eval ea X.env)] := by rfl) : DI Φ g W X (.Tuple elts k pt) (.Call (.Name "enumerate" p) [ea] [] pos) (.enum a) := by
  refine PI.from (pi_enumA hg hm (pa_cons ha pa_nil hs) hs) fun σ H Q ⟨κ, O, e, R, h⟩ => ?_
  refine go_g R (Run.imp (Run.bind h) fun x e1 _ k1 v H1 R1 K1 V1 => ?_)
  obtain ⟨hno, h2⟩ := Run.iteN (k1 H1 K1)
  obtain ⟨d, hd, h3⟩ := Run.optB h2
  obtain ⟨l, hl, h4⟩ := Run.optB h3
  have dv := (V1.get R1 hd).2 (by simpa using hno)
  obtain ⟨p, xs, rfl, hp, hn, dl⟩ := seq_ok dv hl
  rcases hp with hp | hp
  · exact ⟨p, xs, rfl, .inl ⟨SqL.of hp, h4 _ H1 R1 K1 (ite_ok hp hn dl)⟩⟩
  · exact ⟨p, xs, rfl, .inr ⟨SqT.of hp, h4 _ H1 R1 K1 (iteT_ok hp hn dl)⟩⟩
/-- zip of two lists, of two tuples -/
theorem di_zip {k : Nat} {pt : Pos} {elts : List Expr} (ha : DG Φ g W X ea a) (hb : DG Φ g W X eb b) (hm : X.mg "zip" = none := by rfl) (hg : Gl X "zip" := by rfl)
    (hs : starEach [ea, eb] X.env = (false, eval ea X.env) :: starEach [eb] X.env := by rfl) (hs2 : starEach [eb] X.env = (false, eval eb X.env) :: starEach [] X.env := by rfl) (hpl : (backTo pos (starEach [eb] X.env)).any (·.1) = false := by rfl) : DI Φ g W X (.Tuple elts k pt) (.Call (.Name "zip" p) [ea, eb] [] pos) (.zip a b) := by
  refine PI.from (RZ.pi_zipA hg hm (pa_cons ha (pa_cons hb pa_nil hs2) hs) hs hpl) fun σ H Q ⟨κ, O, e, R, h⟩ => ?_
  refine go_g R (Run.imp (Run.bind h) fun x e1 _ k1 v H1 R1 K1 V1 => ?_)
  refine go_g R1 (Run.imp (Run.bind (k1 H1 K1)) fun y e2 _ k2 w H2 R2 K2 V2 => ?_)
  obtain ⟨hno, h2⟩ := Run.iteN (k2 H2 K2)
  obtain ⟨d, hd, h3⟩ := Run.optB h2
  obtain ⟨d', hd', h3'⟩ := Run.optB h3
  obtain ⟨hsame, h3''⟩ := Run.ite h3'
  obtain ⟨l, hl, h4⟩ := Run.optB h3''
  obtain ⟨r, hr, h5⟩ := Run.optB h4
  simp only [Bool.or_eq_true, not_or, Bool.not_eq_true] at hno
  have dv := ((V1.keep K2).get R2 hd).2 hno.1
  have dw := (V2.get R2 hd').2 hno.2
  have K12 := K1.trans K2
  cases d with
  | lst l0 =>
    cases d' with
    | lst r0 =>
      cases hl; cases hr
      cases dv with
      | lst hp hn hz dl =>
        cases dw with
        | lst hp' hn' hz' dr => exact ⟨_, _, _, _, rfl, .inl ⟨SqL.of hp, SqL.of hp', h5 _ H2 R2 K12 (itz_ok hp hn dl hp' hn' dr)⟩⟩
    | _ => cases hsame
  | tup l0 =>
    cases d' with
    | tup r0 =>
      cases hl; cases hr
      cases dv with
      | tup hp hn hz dl =>
        cases dw with
        | tup hp' hn' hz' dr => exact ⟨_, _, _, _, rfl, .inr ⟨SqT.of hp, SqT.of hp', h5 _ H2 R2 K12 (itzT_ok hp hn dl hp' hn' dr)⟩⟩
    | _ => cases hsame
  | _ => cases hl
theorem di_rng1 (hb : DE Φ g W X eb c2) (hm : X.mg "range" = none := by rfl) (hg : Gl X "range" := by rfl) (hs : starEach [eb] X.env = [(false, eval eb X.env)] := by rfl) : DI Φ g W X tg (.Call (.Name "range" p) [eb] [] pos) (.rng1 c2) := by
  refine PI.from (pi_range1 hg hm (pa_cons hb pa_nil hs) hs) fun σ H Q ⟨κ, O, e, R, h⟩ => ?_
  refine ⟨κ, O, e, R, Run.imp (Run.bind h) fun d e1 _ k1 v H1 R1 K1 G1 => ?_⟩
  have h2 := k1 H1 K1
  cases d with
  | int j =>
    cases G1.dat
    obtain ⟨hc, h3⟩ := Run.ite h2
    have hI : ItOk g (rng 0 j) (Itr 0 (j - 0).toNat) (κ.mk' O) H1 := itr_ok 0 j
    rw [Int.sub_zero] at hI
    exact ⟨j, rfl, (okR_ok hc).1, (okR_ok hc).2, h3 _ H1 R1 K1 hI⟩
  | _ => exact h2.elim
theorem di_rng2 (ha : DE Φ g W X ea c1) (hb : DE Φ g W X eb c2) (hm : X.mg "range" = none := by rfl) (hg : Gl X "range" := by rfl) (hs : starEach [ea, eb] X.env = [(false, eval ea X.env), (false, eval eb X.env)] := by rfl) (hs2 : starEach [eb] X.env = [(false, eval eb X.env)] := by rfl) : DI Φ g W X tg (.Call (.Name "range" p) [ea, eb] [] pos) (.rng2 c1 c2) := by
  refine PI.from (pi_range2 hg hm (pa_cons ha (pa_cons hb pa_nil hs2) (by rw [hs, hs2])) hs hs2) fun σ H Q ⟨κ, O, e, R, h⟩ => ?_
  refine ⟨κ, O, e, R, Run.imp (Run.bind h) fun d e1 _ k1 v H1 R1 K1 G1 => ?_⟩
  refine ⟨κ, O, e1, R1, Run.imp (Run.bind (k1 H1 K1)) fun d' e2 _ k2 w H2 R2 K2 G2 => ?_⟩
  have h3 := k2 H2 K2
  cases d with
  | int i =>
    cases d' with
    | int j =>
      cases G1.dat; cases G2.dat
      obtain ⟨hc, h4⟩ := Run.ite h3
      rw [Bool.and_eq_true] at hc
      exact ⟨i, j, rfl, ⟨(okR_ok hc.1).1, (okR_ok hc.1).2, (okR_ok hc.2).1, (okR_ok hc.2).2⟩, h4 _ H2 R2 (K1.trans K2) (itr_ok i j)⟩
    | _ => exact h3.elim
  | _ => exact h3.elim
end
end Pv

namespace Pv
open PySem PySem.Spec PyProof.Rows L2

/-! ## 12. comprehensions -/
abbrev W0 : WX := fun _ _ _ _ => False
section
variable {Φ : Orc} {g : Gm} {W : WX} {X : Cx} {κ : Kp} {O : Addr → Prop} {σ : L2.St} {H H1 : Hp} {e : Sl} {Z : Addr}
theorem Rel.unhide (R : Rel g (κ.hid Z) O e σ H) : Rel g κ O e σ H := by
  have mm : ∀ a (o : HO), κ.mk' O a → H a = some o → (κ.hid Z).mk' O a := fun a o z _ => z.elim (fun z => .inl (.inl z)) .inr
  refine ⟨fun i d h => ?_, fun i l h => ?_, R.inj, R.oe, fun p hp z => R.ou p hp (.inl z), R.fr, fun p hp => R.ul p (.inl hp), R.mo, R.keep, R.len⟩
  · obtain ⟨v, a, b⟩ := R.sh i d h
    exact ⟨v, a, b.mono (fun a o _ q => q) mm⟩
  · obtain ⟨p, vs, a, b, c, f, q⟩ := R.ow i l h
    exact ⟨p, vs, a, b, c, f, q.mono (fun a o _ q => q) mm⟩
theorem hid_dat {v : V} {d : D} {u : HO} (h : Dat g ((κ.hid Z).mk' O) H v d) : Dat g ((κ.hid Z).mk' O) (upd H Z u) v d :=
  h.mono (fun a o n e => by rw [upd_ne (fun z => n (.inl (.inr z)))]; exact e) fun _ _ z _ => z
theorem hid_datL {v : List V} {d : List D} {u : HO} (h : DatL g ((κ.hid Z).mk' O) H v d) : DatL g ((κ.hid Z).mk' O) (upd H Z u) v d :=
  h.mono (fun a o n e => by rw [upd_ne (fun z => n (.inl (.inr z)))]; exact e) fun _ _ z _ => z
theorem Rel.pushD (R : Rel g (κ.hid Z) O e σ H) (h0 : κ.H0 Z = none) (xs : List V) : Rel g (κ.hid Z) O e σ (upd H Z (.lst xs)) := by
  have hO : ∀ p, O p → p ≠ Z := fun p hp z => R.ou p hp (.inr z)
  refine ⟨fun i d h => ?_, fun i l h => ?_, R.inj, R.oe, R.ou, R.fr, fun p hp => ?_, R.mo, fun a o h n => ?_, R.len⟩
  · obtain ⟨v, a, b⟩ := R.sh i d h
    exact ⟨v, a, hid_dat b⟩
  · obtain ⟨p, vs, a, b, c, f, q⟩ := R.ow i l h
    exact ⟨p, vs, a, b, by rw [upd_ne (hO p b)]; exact c, f, hid_datL q⟩
  · by_cases z : p = Z
    · rw [z]; exact ⟨xs, upd_same⟩
    · rw [upd_ne z]; exact R.ul p hp
  · rw [upd_ne (fun z => by rw [z] at h; have h' : κ.H0 Z = some o := h; rw [h0] at h'; cases h')]
    exact R.keep a o h n
theorem keepZ (hZ : H1 Z = none) (K : Keep (fun a => O a ∨ a = Z) H1 H) : Keep O H1 H := fun a o n q => K a o (fun z => z.elim n fun z => by rw [z, hZ] at q; cases q) q
theorem Keep.weak {O' : Addr → Prop} (K : Keep O H1 H) (h : ∀ a, O a → O' a) : Keep O' H1 H := fun a o n q => K a o (fun z => n (h a z)) q
/-- where a comprehension's laps stand: D the new list, acc what it holds -/
structure CI (g : Gm) (κ : Kp) (O : Addr → Prop) (vs : List Nat) (Z : Addr) (σw : L2.St) (H1 : Hp) (ei : Sl) (acc : List D) (H : Hp) : Prop where
  rel : Rel g (κ.hid Z) O (wipeE ei vs) σw H
  no : noOw ei vs = true
  keep : Keep (fun a => O a ∨ a = Z) H1 H
  acc : ∃ xs, H Z = some (.lst xs) ∧ xs.length ≤ sizeLine ∧ DatL g ((κ.hid Z).mk' O) H xs acc
theorem wipeE_no {vs : List Nat} {e : Sl} : ∀ j ∈ vs, ∀ l, (wipeE e vs)[j]? ≠ some (Ent.ow l) := by
  induction vs with
  | nil => intro j h; cases h
  | cons v vs ih =>
    intro j hj l z
    have z' : ((wipeE e vs).set v .un)[j]? = some (Ent.ow l) := z
    by_cases hv : v = j
    · subst hv
      by_cases hl : v < (wipeE e vs).length
      · rw [List.getElem?_set_self hl] at z'; cases z'
      · rw [List.getElem?_eq_none (by rw [List.length_set]; omega)] at z'; cases z'
    · rw [List.getElem?_set_ne hv] at z'
      rcases List.mem_cons.mp hj with q | q
      · exact hv q.symm
      · exact ih j q l z'
theorem wipe_in {k : Nat} : ∀ {vs : List Nat} {τ : L2.St}, k ∈ vs → (L2.wipe τ vs)[k]? = if k < τ.length then some none else none
  | [], _, h => by cases h
  | a :: vs, τ, h => by
    show ((L2.wipe τ vs).set a none)[k]? = _
    by_cases ha : a = k
    · subst ha
      by_cases hl : a < τ.length
      · rw [List.getElem?_set_self (by rw [wipe_length]; exact hl), if_pos hl]
      · rw [List.getElem?_eq_none (by rw [List.length_set, wipe_length]; omega), if_neg hl]
    · rw [List.getElem?_set_ne ha]
      rcases List.mem_cons.mp h with z | z
      · exact absurd z.symm ha
      · exact wipe_in z
theorem wipe_wipe {vs : List Nat} : L2.wipe (L2.wipe σ vs) vs = L2.wipe σ vs := by
  apply List.ext_getElem?
  intro k
  by_cases hk : k ∈ vs
  · rw [wipe_in hk, wipe_in hk, wipe_length]
  · rw [wipe_out' hk]
theorem wipe_sub {vs vs1 : List Nat} (h : ∀ i ∈ vs1, i ∈ vs) : L2.wipe (L2.wipe σ vs1) vs = L2.wipe σ vs := by
  apply List.ext_getElem?
  intro k
  by_cases hk : k ∈ vs
  · rw [wipe_in hk, wipe_in hk, wipe_length]
  · rw [wipe_out' hk, wipe_out' hk, wipe_out' fun z => hk (h k z)]
theorem drop_cons {α : Type} {l r : List α} {d : α} {i : Nat} (h : l.drop i = d :: r) : l[i]? = some d ∧ l.drop (i + 1) = r ∧ i < l.length := by
  have h1 : (l.drop i)[0]? = some d := by rw [h]; rfl
  rw [List.getElem?_drop] at h1
  refine ⟨by simpa using h1, ?_, ?_⟩
  · have h2 : (l.drop i).drop 1 = r := by rw [h]; rfl
    rw [List.drop_drop] at h2
    exact h2
  · obtain ⟨h3, _⟩ := List.getElem?_eq_some_iff.mp h1
    simpa using h3
theorem CI.stop {e1 ei : Sl} {vs : List Nat} {acc : List D} {H' : Hp} (R1 : Rel g κ O e1 σ H1) (hD : H1 Z = none) (hno : noOw e1 vs = true) (C : CI g κ O vs Z (L2.wipe σ vs) H1 ei acc H') :
    Rel g κ O (backE e1 (wipeE ei vs) vs) σ H' ∧ GotX g κ O (backE e1 (wipeE ei vs) vs) σ H1 H' (.ref Z) (.lst acc) true := by
  have R2 := C.rel.unhide
  refine ⟨R1.back R2 (fun a o n q => keepZ hD C.keep a o (fun z => n (.inr z)) q) hno wipe_wipe wipeE_no, ?_⟩
  obtain ⟨xs, a, b, c⟩ := C.acc
  have hn : ¬ κ.mk' O Z := R1.newNot hD
  have m1 : ∀ a (o : HO), κ.mk' O a ∨ a = Z → H' a = some o → (κ.hid Z).mk' O a := fun a o z _ => by
    rcases z with (z | z) | z
    · exact .inl (.inl z)
    · exact .inr z
    · exact .inl (.inr z)
  refine ⟨.lst a hn b (c.mono (fun _ _ _ q => q) fun a o z q => m1 a o (.inl z) q), fun _ l ed => ?_⟩
  cases ed
  refine ⟨Z, xs, rfl, hD, a, b, c.mono (fun _ _ _ q => q) m1, (R1.hide (xs := []) hD).back C.rel (fun a o n q => ?_) hno wipe_wipe wipeE_no⟩
  have hz : a ≠ Z := fun z => n (.inl (.inr z))
  rw [upd_ne hz] at q
  exact C.keep a o (fun z => n (z.elim .inr fun z => absurd z hz)) q
theorem CI.start {e1 : Sl} {vs : List Nat} (R1 : Rel g κ O e1 σ H1) (hD : H1 Z = none) (hno : noOw e1 vs = true) : CI g κ O vs Z (L2.wipe σ vs) H1 e1 [] (upd H1 Z (.lst [])) :=
  ⟨(R1.hide hD).wipe hno, hno, (Keep.new hD : Keep O H1 _).weak fun _ z => .inl z, [], upd_same, Nat.zero_le _, .nil⟩
/-- behind a lap -/
theorem CI.next {e3 : Sl} {vs : List Nat} {acc : List D} {σ2 : L2.St} {H3 : Hp} {xs : List V} (R : Rel g (κ.hid Z) O e3 σ2 H3) (hw : L2.wipe σ2 vs = L2.wipe σ vs) (hno : noOw e3 vs = true) (K : Keep (fun a => O a ∨ a = Z) H1 H3)
    (hx : H3 Z = some (.lst xs)) (hz : xs.length ≤ sizeLine) (hd : DatL g ((κ.hid Z).mk' O) H3 xs acc) : CI g κ O vs Z (L2.wipe σ vs) H1 e3 acc H3 := by
  have := R.wipe hno
  rw [hw] at this
  exact ⟨this, hno, K, xs, hx, hz, hd⟩
theorem keepD (R : Rel g (κ.hid Z) O e σ H) : ∀ {H' : Hp} {xs : List V}, Keep O H H' → H Z = some (.lst xs) → H' Z = some (.lst xs) := fun {_ _} K h => K Z _ (fun z => R.ou Z z (.inr rfl)) h
variable {it it1 : It} {tgc tgc1 : Tg} {t t1 : Tt} {el : C} {vs vs1 : List Nat} {Q : VK}
theorem run_calm {α : Type} {r : Pv.R α} {κ' : Kp} {σ' : L2.St} {H' : Hp} {W' : WX} {K' : α → Sl → Prop} (h : ∃ a e, r = .ok a e) (k : ∀ a e, r = .ok a e → K' a e) : Run g κ' O W' σ' H' r K' := by
  obtain ⟨a, e, q⟩ := h
  rw [q]
  exact k a e q
/-- a lap by its parts: target, test, element -/
theorem lap_of {α : Type} {d : D} {rest acc : List D} {ei : Sl} {tt : Sl → Pv.R Bool} {elf : Sl → List D → Pv.R (List D)} {F : List D → Sl → Pv.R α} {K : α → Sl → Prop} {as : D → Sl → Option Sl} (h : Run g κ O W σ H ((compGo as tt elf vs (d :: rest) acc ei).bind F) K) :
    ∃ e1, as d (wipeE ei vs) = some e1 ∧ ∃ b e2, tt e1 = .ok b e2 ∧
      (b = true → ∃ acc' e3, elf e2 acc = .ok acc' e3 ∧ noOw e3 vs = true ∧ Run g κ O W σ H ((compGo as tt elf vs rest acc' e3).bind F) K) ∧
      (b = false → noOw e2 vs = true ∧ Run g κ O W σ H ((compGo as tt elf vs rest acc e2).bind F) K) := by
  have h0 : Run g κ O W σ H (((opt (as d (wipeE ei vs)) ei).bind fun e1 _ => (tt e1).calm.bind fun b e2 => if b = true then (elf e2 acc).calm.bind fun acc' e3 => if noOw e3 vs = true then compGo as tt elf vs rest acc' e3 else .bad
      else if noOw e2 vs = true then compGo as tt elf vs rest acc e2 else .bad).bind F) K := h
  rw [Run.bindT] at h0
  obtain ⟨e1, h1, h2⟩ := Run.optB h0
  refine ⟨e1, h1, ?_⟩
  rw [Run.bindT] at h2
  obtain ⟨⟨b, e2, hb⟩, h3⟩ := Run.calmB h2
  rw [hb] at h3
  refine ⟨b, e2, hb, fun e => ?_, fun e => ?_⟩
  · subst e
    have h4 : Run g κ O W σ H (((elf e2 acc).calm.bind fun acc' e3 => if noOw e3 vs = true then compGo as tt elf vs rest acc' e3 else .bad).bind F) K := h3
    rw [Run.bindT] at h4
    obtain ⟨⟨acc', e3, hel⟩, h5⟩ := Run.calmB h4
    rw [hel] at h5
    have h6 : Run g κ O W σ H ((if noOw e3 vs = true then compGo as tt elf vs rest acc' e3 else .bad).bind F) K := h5
    refine ⟨acc', e3, hel, ?_⟩
    by_cases hn : noOw e3 vs = true
    · rw [if_pos hn] at h6; exact ⟨hn, h6⟩
    · rw [if_neg hn] at h6; exact h6.elim
  · subst e
    have h4 : Run g κ O W σ H ((if noOw e2 vs = true then compGo as tt elf vs rest acc e2 else .bad).bind F) K := h3
    by_cases hn : noOw e2 vs = true
    · rw [if_pos hn] at h4; exact ⟨hn, h4⟩
    · rw [if_neg hn] at h4; exact h4.elim
theorem oneMore_ok {r : Pv.R D} {acc acc' : List D} {e3 : Sl} (h : oneMore r acc = .ok acc' e3) : ∃ d, r = .ok d e3 ∧ acc.length < LIM ∧ acc' = acc ++ [d] := by
  obtain ⟨d, e4, h1, h2⟩ := bind_ok (show (r.bind fun d e => if acc.length < LIM then Pv.R.ok (acc ++ [d]) e else .bad) = .ok acc' e3 from h)
  by_cases hl : acc.length < LIM
  · rw [if_pos hl] at h2
    cases h2
    exact ⟨d, h1, hl, rfl⟩
  · rw [if_neg hl] at h2; cases h2
/-- the element's reading, and Z one longer -/
theorem elem_of {d : D} {acc : List D} {e2 e3 : Sl} {σ2 : L2.St} {H3 : Hp} {xs : List V} {Nx : Hp → Prop} (h0 : κ.H0 Z = none) (R : Rel g (κ.hid Z) O e2 σ2 H3) (hel : ev Φ el e2 = .ok d e3) (hl : acc.length < LIM) (hx : H3 Z = some (.lst xs)) (hd : DatL g ((κ.hid Z).mk' O) H3 xs acc)
    (k : ∀ H5 ys, Rel g (κ.hid Z) O e3 σ2 H5 → Keep (fun a => O a ∨ a = Z) H3 H5 → H5 Z = some (.lst ys) → ys.length ≤ sizeLine → DatL g ((κ.hid Z).mk' O) H5 ys (acc ++ [d]) → Nx H5) :
    tEv Φ g W0 el σ2 H3 fun y H4 => ∃ acc, H4 Z = some (.lst acc) ∧ acc.length < sizeLine ∧ Nx (upd H4 Z (.lst (acc ++ [y]))) := by
  refine ⟨κ.hid Z, O, e2, R, ?_⟩
  rw [hel]
  intro v H4 R4 K4 G4
  have hx4 := keepD R K4 hx
  have hd4 : DatL g ((κ.hid Z).mk' O) H4 xs acc := K4.datL hd
  have hz : xs.length < sizeLine := by rw [hd.length]; exact liml hl
  refine ⟨xs, hx4, hz, k _ (xs ++ [v]) (R4.pushD h0 _) (fun a o n q => ?_) upd_same (by rw [List.length_append]; exact hz) (hid_datL (hd4.append (.cons G4.dat .nil)))⟩
  rw [upd_ne (fun z => n (.inr z))]
  exact K4 a o (fun z => n (.inl z)) q
theorem mask_some (R : Rel g κ O e σ H) : ∀ a, κ.mk' O a → H a ≠ none := R.nomask
theorem hid_new (hZ : H1 Z = none) : ∀ a, (κ.hid Z).mk' O a → κ.mk' O a ∨ H1 a = none := fun a z => by
  rcases z with (z | z) | z
  · exact .inl (.inl z)
  · exact .inr (by rw [z]; exact hZ)
  · exact .inl (.inr z)
theorem lc_of (hsl : ∀ i ∈ tgc.sl, i ∈ vs) (h : tEv Φ g W (.comp it tgc t el vs) σ H Q) : tLc (tI Φ g W it) (gOf g.K tgc) (tTt Φ g W0 t) (tEv Φ g W0 el) vs σ H Q := by
  obtain ⟨κ, O, e, R, h⟩ := h
  refine ⟨κ, O, e, R, Run.imp (Run.bind h) fun l e1 _ k1 J H1 R1 K1 IT => ?_⟩
  obtain ⟨hno, h2⟩ := Run.ite (k1 H1 K1)
  intro Z hD
  have h0 : κ.H0 Z = none := R1.new0 hD
  obtain ⟨K0, hK0, h2⟩ : ∃ K0 : D → Sl → Prop, (∀ d e', K0 d e' → ∀ v H', Rel g κ O e' σ H' → Keep O H H' → GotX g κ O e' σ H H' v d true → Q v H') ∧
    Run g κ O W σ H1 ((compGo (fun d e => put e tgc d) (evT Φ t) (fun e acc => oneMore (ev Φ el e) acc) vs l [] e1).bind fun r e2 => Pv.R.ok (D.lst r) (backE e1 (wipeE e2 vs) vs)) K0 := ⟨_, fun _ _ h => h, h2⟩
  refine ⟨fun i m H' => ∃ ei acc, m = l.length - i ∧ i ≤ l.length ∧ CI g κ O vs Z (L2.wipe σ vs) H1 ei acc H' ∧
    Run g κ O W σ H1 ((compGo (fun d e => put e tgc d) (evT Φ t) (fun e acc => oneMore (ev Φ el e) acc) vs (l.drop i) acc ei).bind fun r e2 => Pv.R.ok (D.lst r) (backE e1 (wipeE e2 vs) vs)) K0,
    ⟨_, e1, [], rfl, Nat.zero_le _, CI.start R1 hD hno, h2⟩, ?_⟩
  rintro i m H' ⟨ei, acc, rfl, hle, CC, hr⟩
  have hO : ∀ a, (κ.hid Z).mk' O a → H' a ≠ none := CC.rel.nomask
  have it1 := IT i ((κ.hid Z).mk' O) H' (fun a o n => keepZ hD CC.keep a o fun z => n (.inr z)) (hid_new hD) hO
  cases hl : l.drop i with
  | nil =>
    have hi : l.length ≤ i := List.drop_eq_nil_iff.mp hl
    rw [hl] at hr
    obtain ⟨R', G'⟩ := CI.stop R1 hD hno CC
    exact .inl ⟨it1.2 hi, hK0 _ _ hr _ H' R' (K1.trans (keepZ hD CC.keep)) (G'.back K1 R1.noO)⟩
  | cons d rest =>
    obtain ⟨hd, hrest, hlt⟩ := drop_cons hl
    rw [hl] at hr
    obtain ⟨e2, hput, b, e3, htt, htrue, hfalse⟩ := lap_of hr
    obtain ⟨hgo, hyld⟩ := it1.1 d hd
    obtain ⟨Nx, hin, hout⟩ : ∃ Nx : Hp → Prop, (∀ H5 ei acc, CI g κ O vs Z (L2.wipe σ vs) H1 ei acc H5 → Run g κ O W σ H1 ((compGo (fun d e => put e tgc d) (evT Φ t) (fun e acc => oneMore (ev Φ el e) acc) vs (l.drop (i + 1)) acc ei).bind fun r e2 => Pv.R.ok (D.lst r) (backE e1 (wipeE e2 vs) vs)) K0 → Nx H5) ∧
      (∀ H5, Nx H5 → ∃ ei acc, CI g κ O vs Z (L2.wipe σ vs) H1 ei acc H5 ∧ Run g κ O W σ H1 ((compGo (fun d e => put e tgc d) (evT Φ t) (fun e acc => oneMore (ev Φ el e) acc) vs (l.drop (i + 1)) acc ei).bind fun r e2 => Pv.R.ok (D.lst r) (backE e1 (wipeE e2 vs) vs)) K0) :=
      ⟨fun H5 => ∃ ei acc, _ ∧ _, fun H5 ei acc a b => ⟨ei, acc, a, b⟩, fun _ h => h⟩
    refine .inr ⟨hgo, Nx, fun H5 h5 => by obtain ⟨ei, acc, b, c⟩ := hout H5 h5; exact ⟨l.length - (i + 1), by omega, ei, acc, rfl, hlt, b, c⟩, fun x H6 hy => ?_⟩
    obtain ⟨ext, dx⟩ := hyld x H6 hy
    have R6 : Rel g (κ.hid Z) O (wipeE ei vs) (L2.wipe σ vs) H6 := CC.rel.grow ext
    obtain ⟨xs, x1, x2, x3⟩ := CC.acc
    refine go_tg R6 hput dx fun σ2 R7 hw => ?_
    have hw2 : L2.wipe σ2 vs = L2.wipe σ vs := (hw vs hsl).trans wipe_wipe
    refine ⟨hw2, κ.hid Z, O, e2, R7, ?_⟩
    rw [htt]
    intro H7 R8 K8
    have K7 : Keep (fun a => O a ∨ a = Z) H1 H7 := CC.keep.trans (Keep.trans (fun a o _ q => ext a o q) (K8.weak fun _ z => .inl z))
    have hx7 : H7 Z = some (.lst xs) := keepD R7 K8 (ext _ _ x1)
    have hd7 : DatL g ((κ.hid Z).mk' O) H7 xs acc := Keep.datL K8 (x3.mono (fun a o _ q => ext a o q) fun _ _ z _ => z)
    cases b with
    | false =>
      obtain ⟨n1, n2⟩ := hfalse rfl
      rw [← hrest] at n2
      exact iteF (hin _ e3 acc (CI.next R8 hw2 n1 K7 hx7 x2 hd7) n2)
    | true =>
      obtain ⟨acc', e4, m1, m2, m3⟩ := htrue rfl
      rw [← hrest] at m3
      obtain ⟨dd, m4, m5, rfl⟩ := oneMore_ok m1
      refine iteT (elem_of h0 R8 m4 m5 hx7 hd7 fun H9 ys R9 K9 y1 y2 y3 => hin _ e4 _ (CI.next R9 hw2 m2 (K7.trans K9) y1 y2 y3) m3)
theorem CI.startI {e1 : Sl} {acc : List D} {xs : List V} (R1 : Rel g (κ.hid Z) O e1 σ H1) (hno : noOw e1 vs = true) (hx : H1 Z = some (.lst xs)) (hz : xs.length ≤ sizeLine) (hd : DatL g ((κ.hid Z).mk' O) H1 xs acc) : CI g κ O vs Z (L2.wipe σ vs) H1 e1 acc H1 :=
  ⟨R1.wipe hno, hno, Keep.refl _ _, xs, hx, hz, hd⟩
theorem CI.stopI {e1 ei : Sl} {acc : List D} {H' : Hp} (R1 : Rel g (κ.hid Z) O e1 σ H1) (hno : noOw e1 vs = true) (C : CI g κ O vs Z (L2.wipe σ vs) H1 ei acc H') : Rel g (κ.hid Z) O (backE e1 (wipeE ei vs) vs) σ H' :=
  R1.back C.rel (fun a o n q => C.keep a o (fun z => n (z.elim .inr fun z => .inl (.inr z))) q) hno wipe_wipe wipeE_no
theorem lc2_of (hsl : ∀ i ∈ tgc.sl, i ∈ vs) (hsl1 : ∀ i ∈ tgc1.sl, i ∈ vs1) (h : tEv Φ g W (.comp2 it tgc t it1 tgc1 t1 el vs vs1) σ H Q) :
    tLc2 (tI Φ g W it) (gOf g.K tgc) (tTt Φ g W0 t) (tI Φ g W0 it1) (gOf g.K tgc1) (tTt Φ g W0 t1) (tEv Φ g W0 el) vs vs1 σ H Q := by
  obtain ⟨κ, O, e, R, h⟩ := h
  obtain ⟨inn, hinn⟩ : ∃ inn : List D → List D → Sl → Pv.R (List D), inn = compGo (fun d e => put e tgc1 d) (evT Φ t1) (fun e acc => oneMore (ev Φ el e) acc) vs1 := ⟨_, rfl⟩
  obtain ⟨elf, helf⟩ : ∃ elf : Sl → List D → Pv.R (List D), elf = fun e acc => (evI Φ it1 e).bind fun l1 e2 => if noOw e2 vs1 = true then (inn l1 acc e2).bind fun r e3 => .ok r (backE e2 (wipeE e3 vs1) vs1) else .bad := ⟨_, rfl⟩
  have h' : Run g κ O W σ H ((evI Φ it e).bind fun l e1 => if noOw e1 vs = true then
      (compGo (fun d e => put e tgc d) (evT Φ t) elf vs l [] e1).bind fun r e2 => .ok (.lst r) (backE e1 (wipeE e2 vs) vs)
    else .bad) fun d e' => ∀ v H', Rel g κ O e' σ H' → Keep O H H' → GotX g κ O e' σ H H' v d true → Q v H' := by
    rw [helf, hinn]
    exact h
  refine ⟨κ, O, e, R, Run.imp (Run.bind h') fun l e1 _ k1 J H1 R1 K1 IT => ?_⟩
  obtain ⟨hno, h2⟩ := Run.ite (k1 H1 K1)
  intro Z hD
  have h0 : κ.H0 Z = none := R1.new0 hD
  obtain ⟨K0, hK0, h2⟩ : ∃ K0 : D → Sl → Prop, (∀ d e', K0 d e' → ∀ v H', Rel g κ O e' σ H' → Keep O H H' → GotX g κ O e' σ H H' v d true → Q v H') ∧
    Run g κ O W σ H1 ((compGo (fun d e => put e tgc d) (evT Φ t) elf vs l [] e1).bind fun r e2 => Pv.R.ok (D.lst r) (backE e1 (wipeE e2 vs) vs)) K0 := ⟨_, fun _ _ h => h, h2⟩
  refine ⟨fun i m H' => ∃ ei acc, m = l.length - i ∧ i ≤ l.length ∧ CI g κ O vs Z (L2.wipe σ vs) H1 ei acc H' ∧
    Run g κ O W σ H1 ((compGo (fun d e => put e tgc d) (evT Φ t) elf vs (l.drop i) acc ei).bind fun r e2 => Pv.R.ok (D.lst r) (backE e1 (wipeE e2 vs) vs)) K0,
    ⟨_, e1, [], rfl, Nat.zero_le _, CI.start R1 hD hno, h2⟩, ?_⟩
  rintro i m H' ⟨ei, acc, rfl, hle, CC, hr⟩
  have hO : ∀ a, (κ.hid Z).mk' O a → H' a ≠ none := CC.rel.nomask
  have it1' := IT i ((κ.hid Z).mk' O) H' (fun a o n => keepZ hD CC.keep a o fun z => n (.inr z)) (hid_new hD) hO
  cases hl : l.drop i with
  | nil =>
    have hi : l.length ≤ i := List.drop_eq_nil_iff.mp hl
    rw [hl] at hr
    obtain ⟨R', G'⟩ := CI.stop R1 hD hno CC
    exact .inl ⟨it1'.2 hi, hK0 _ _ hr _ H' R' (K1.trans (keepZ hD CC.keep)) (G'.back K1 R1.noO)⟩
  | cons d rest =>
    obtain ⟨hd, hrest, hlt⟩ := drop_cons hl
    rw [hl] at hr
    obtain ⟨e2, hput, b, e3, htt, htrue, hfalse⟩ := lap_of hr
    obtain ⟨hgo, hyld⟩ := it1'.1 d hd
    obtain ⟨Nx, hin, hout⟩ : ∃ Nx : Hp → Prop, (∀ H5 ei acc, CI g κ O vs Z (L2.wipe σ vs) H1 ei acc H5 → Run g κ O W σ H1 ((compGo (fun d e => put e tgc d) (evT Φ t) elf vs (l.drop (i + 1)) acc ei).bind fun r e2 => Pv.R.ok (D.lst r) (backE e1 (wipeE e2 vs) vs)) K0 → Nx H5) ∧
      (∀ H5, Nx H5 → ∃ ei acc, CI g κ O vs Z (L2.wipe σ vs) H1 ei acc H5 ∧ Run g κ O W σ H1 ((compGo (fun d e => put e tgc d) (evT Φ t) elf vs (l.drop (i + 1)) acc ei).bind fun r e2 => Pv.R.ok (D.lst r) (backE e1 (wipeE e2 vs) vs)) K0) :=
      ⟨fun H5 => ∃ ei acc, _ ∧ _, fun H5 ei acc a b => ⟨ei, acc, a, b⟩, fun _ h => h⟩
    refine .inr ⟨hgo, Nx, fun H5 h5 => by obtain ⟨ei, acc, b, c⟩ := hout H5 h5; exact ⟨l.length - (i + 1), by omega, ei, acc, rfl, hlt, b, c⟩, fun x H6 hy => ?_⟩
    obtain ⟨ext, dx⟩ := hyld x H6 hy
    have R6 : Rel g (κ.hid Z) O (wipeE ei vs) (L2.wipe σ vs) H6 := CC.rel.grow ext
    obtain ⟨xs, x1, x2, x3⟩ := CC.acc
    refine go_tg R6 hput dx fun σ2 R7 hw => ?_
    have hw2 : L2.wipe σ2 vs = L2.wipe σ vs := (hw vs hsl).trans wipe_wipe
    refine ⟨hw2, κ.hid Z, O, e2, R7, ?_⟩
    rw [htt]
    intro H7 R8 K8
    have K7 : Keep (fun a => O a ∨ a = Z) H1 H7 := CC.keep.trans (Keep.trans (fun a o _ q => ext a o q) (K8.weak fun _ z => .inl z))
    have hx7 : H7 Z = some (.lst xs) := keepD R7 K8 (ext _ _ x1)
    have hd7 : DatL g ((κ.hid Z).mk' O) H7 xs acc := Keep.datL K8 (x3.mono (fun a o _ q => ext a o q) fun _ _ z _ => z)
    cases b with
    | false =>
      obtain ⟨n1, n2⟩ := hfalse rfl
      rw [← hrest] at n2
      exact iteF (hin _ e3 acc (CI.next R8 hw2 n1 K7 hx7 x2 hd7) n2)
    | true =>
      obtain ⟨accF, eF, m1, m2, m3⟩ := htrue rfl
      rw [← hrest] at m3
      rw [helf] at m1
      obtain ⟨l1, e4, p1, p2⟩ := bind_ok m1
      have hno1 : noOw e4 vs1 = true := by
        by_cases hn : noOw e4 vs1 = true
        · exact hn
        · rw [if_neg hn] at p2; cases p2
      rw [if_pos hno1] at p2
      refine iteT ⟨κ.hid Z, O, e3, R8, ?_⟩
      rw [p1]
      intro J1 H9 R9 K9 IT1
      have hx9 : H9 Z = some (.lst xs) := keepD R8 K9 hx7
      have hd9 : DatL g ((κ.hid Z).mk' O) H9 xs acc := K9.datL hd7
      have K79 : Keep (fun a => O a ∨ a = Z) H1 H9 := K7.trans (K9.weak fun _ z => .inl z)
      have p3 : Run g κ O W σ H1 ((inn (l1.drop 0) acc e4).bind fun r e3 => Pv.R.ok r (backE e4 (wipeE e3 vs1) vs1)) fun a e => a = accF ∧ e = eF := by
        rw [List.drop_zero, p2]
        exact ⟨rfl, rfl⟩
      refine ⟨fun j k H' => ∃ ej acc, k = l1.length - j ∧ j ≤ l1.length ∧ CI g κ O vs1 Z (L2.wipe σ2 vs1) H9 ej acc H' ∧
        Run g κ O W σ H1 ((inn (l1.drop j) acc ej).bind fun r e3 => Pv.R.ok r (backE e4 (wipeE e3 vs1) vs1)) fun a e => a = accF ∧ e = eF, ⟨_, e4, acc, rfl, Nat.zero_le _, CI.startI R9 hno1 hx9 x2 hd9, p3⟩, ?_⟩
      rintro j k H10 ⟨ej, accj, rfl, hlej, CJ, hrj⟩
      have hOj : ∀ a, (κ.hid Z).mk' O a → H10 a ≠ none := CJ.rel.nomask
      have itj := IT1 j ((κ.hid Z).mk' O) H10 (fun a o n => CJ.keep a o fun z => n (z.elim .inr fun z => .inl (.inr z))) (fun a z => .inl z) hOj
      obtain ⟨ys, y1, y2, y3⟩ := CJ.acc
      cases hlj : l1.drop j with
      | nil =>
        have hi : l1.length ≤ j := List.drop_eq_nil_iff.mp hlj
        rw [hlj, hinn] at hrj
        obtain ⟨q1, q2⟩ : accj = accF ∧ backE e4 (wipeE ej vs1) vs1 = eF := hrj
        subst q1 q2
        exact .inl ⟨itj.2 hi, hin _ _ _ (CI.next (CI.stopI R9 hno1 CJ) hw2 m2 (K79.trans CJ.keep) y1 y2 y3) m3⟩
      | cons dj restj =>
        obtain ⟨hdj, hrestj, hltj⟩ := drop_cons hlj
        rw [hlj, hinn] at hrj
        obtain ⟨e5, hput1, b1, e6, htt1, htrue1, hfalse1⟩ := lap_of hrj
        obtain ⟨hgo1, hyld1⟩ := itj.1 dj hdj
        rw [← hinn, ← hrestj] at htrue1 hfalse1
        obtain ⟨Nx1, hin1, hout1⟩ : ∃ Nx : Hp → Prop, (∀ H5 ei acc, CI g κ O vs1 Z (L2.wipe σ2 vs1) H9 ei acc H5 → Run g κ O W σ H1 ((inn (l1.drop (j + 1)) acc ei).bind fun r e3 => Pv.R.ok r (backE e4 (wipeE e3 vs1) vs1)) (fun a e => a = accF ∧ e = eF) → Nx H5) ∧
          (∀ H5, Nx H5 → ∃ ei acc, CI g κ O vs1 Z (L2.wipe σ2 vs1) H9 ei acc H5 ∧ Run g κ O W σ H1 ((inn (l1.drop (j + 1)) acc ei).bind fun r e3 => Pv.R.ok r (backE e4 (wipeE e3 vs1) vs1)) fun a e => a = accF ∧ e = eF) :=
          ⟨fun H5 => ∃ ei acc, _ ∧ _, fun H5 ei acc a b => ⟨ei, acc, a, b⟩, fun _ h => h⟩
        refine .inr ⟨hgo1, Nx1, fun H5 h5 => by obtain ⟨ei, acc, b, c⟩ := hout1 H5 h5; exact ⟨l1.length - (j + 1), by omega, ei, acc, rfl, hltj, b, c⟩, fun x1 H11 hy1 => ?_⟩
        obtain ⟨ext1, dx1⟩ := hyld1 x1 H11 hy1
        refine go_tg (CJ.rel.grow ext1) hput1 dx1 fun σ3 R12 hw1 => ?_
        have hw3 : L2.wipe σ3 vs1 = L2.wipe σ2 vs1 := (hw1 vs1 hsl1).trans wipe_wipe
        refine ⟨hw3, κ.hid Z, O, e5, R12, ?_⟩
        rw [htt1]
        intro H13 R13 K13
        have K14 : Keep (fun a => O a ∨ a = Z) H9 H13 := CJ.keep.trans (Keep.trans (fun a o _ q => ext1 a o q) (K13.weak fun _ z => .inl z))
        have hx13 : H13 Z = some (.lst ys) := keepD R12 K13 (ext1 _ _ y1)
        have hd13 : DatL g ((κ.hid Z).mk' O) H13 ys accj := Keep.datL K13 (y3.mono (fun a o _ q => ext1 a o q) fun _ _ z _ => z)
        cases b1 with
        | false =>
          obtain ⟨n1, n2⟩ := hfalse1 rfl
          exact iteF (hin1 _ e6 accj (CI.next R13 hw3 n1 K14 hx13 y2 hd13) n2)
        | true =>
          obtain ⟨acc', e7, q1, q2, q3⟩ := htrue1 rfl
          obtain ⟨dd, q4, q5, rfl⟩ := oneMore_ok q1
          refine iteT (elem_of h0 R13 q4 q5 hx13 hd13 fun H15 zs R15 K15 z1 z2 z3 => hin1 _ e7 _ (CI.next R15 hw3 q2 (K14.trans K15) z1 z2 z3) q3)
end
end Pv

namespace Pv
open PySem PySem.Spec PyProof.Rows L2

/-! ## 13. comprehensions, pop as expressions -/
section
variable {Φ : Orc} {g : Gm} {W : WX} {X : Cx} {κ : Kp} {O : Addr → Prop} {σ : L2.St} {H H1 : Hp} {e : Sl} {ea : Expr} {es : List Expr} {pos p apos : Pos} {it it1 : It} {tgc tgc1 : Tg} {t t1 : Tt} {el : C} {vs vs1 : List Nat}
abbrev DTs (Φ : Orc) (g : Gm) (W : WX) (X : Cx) (ifs : List Expr) (t : Tt) : Prop := PTs X ifs (tTt Φ g W t)
theorem PTs.from {X : Cx} {e : List Expr} {t t' : TT} (h : PTs X e t) (i : ∀ σ H Q, t' σ H Q → t σ H Q) : PTs X e t' := ⟨fun pins s σ H Q I q => h.run pins s σ H Q I (i σ H Q q)⟩
theorem dts_nil : DTs Φ g W X [] .yes := PTs.from pts_nil fun σ H Q ⟨κ, O, e, R, h⟩ => h H R (Keep.refl _ _)
theorem dts_one {c : C} (h : DT Φ g W X ea c) : DTs Φ g W X [ea] (.c c) := pts_one h
theorem de_comp {elt tg iter : Expr} {ifs : List Expr} {scope : Scope} {own : List (Str × Nat)} (hcal : X.calm = true) (hN : X.N.Nodup) (hi : DI Φ g W X tg iter it) (ok : BlkOk X.N X.env.scope scope own)
    (hg : ∀ (s : Shared) (H : Hp) (C : Addr) (cl : List (Str × Addr)) (fp : List Addr), DTg g (X.blk s H scope (compEnvC scope cl C X.env) fp) tg tgc) (ht : ∀ (s : Shared) (H : Hp) (C : Addr) (cl : List (Str × Addr)) (fp : List Addr), DTs Φ g W0 (X.blk s H scope (compEnvC scope cl C X.env) fp) ifs t)
    (he : ∀ (s : Shared) (H : Hp) (C : Addr) (cl : List (Str × Addr)) (fp : List Addr), DE Φ g W0 (X.blk s H scope (compEnvC scope cl C X.env) fp) elt el) (hv : own.map (·.2) = vs := by rfl) (hsl : ∀ i ∈ tgc.sl, i ∈ vs := by decide) (hs : ∀ x, foldedSetIterable iter X.env x = pure x := by intro _; rfl) :
    DE Φ g W X (.ListComp elt [⟨tg, iter, ifs, 0⟩] scope pos) (.comp it tgc t el vs) := by
  subst hv
  exact PE.from (pe_lc hcal hN hi ok hg ht he hs) fun σ H Q h => lc_of hsl h
theorem de_comp2 {elt tg iter tg1 iter1 : Expr} {ifs ifs1 : List Expr} {scope : Scope} {own : List (Str × Nat)} (hcal : X.calm = true) (hN : X.N.Nodup) (hi : DI Φ g W X tg iter it) (ok : BlkOk X.N X.env.scope scope own)
    (hg : ∀ (s : Shared) (H : Hp) (C : Addr) (cl : List (Str × Addr)) (fp : List Addr), DTg g (X.blk s H scope (compEnvC scope cl C X.env) fp) tg tgc) (ht : ∀ (s : Shared) (H : Hp) (C : Addr) (cl : List (Str × Addr)) (fp : List Addr), DTs Φ g W0 (X.blk s H scope (compEnvC scope cl C X.env) fp) ifs t)
    (hi1 : ∀ (s : Shared) (H : Hp) (C : Addr) (cl : List (Str × Addr)) (fp : List Addr), DI Φ g W0 (X.blk s H scope (compEnvC scope cl C X.env) fp) tg1 iter1 it1)
    (hg1 : ∀ (s : Shared) (H : Hp) (C : Addr) (cl : List (Str × Addr)) (fp : List Addr), DTg g (X.blk s H scope (compEnvC scope cl C X.env) fp) tg1 tgc1) (ht1 : ∀ (s : Shared) (H : Hp) (C : Addr) (cl : List (Str × Addr)) (fp : List Addr), DTs Φ g W0 (X.blk s H scope (compEnvC scope cl C X.env) fp) ifs1 t1)
    (he : ∀ (s : Shared) (H : Hp) (C : Addr) (cl : List (Str × Addr)) (fp : List Addr), DE Φ g W0 (X.blk s H scope (compEnvC scope cl C X.env) fp) elt el) (hv : own.map (·.2) = vs := by rfl) (hv1 : ∀ i ∈ vs1, i ∈ vs := by decide) (hsl : ∀ i ∈ tgc.sl, i ∈ vs := by decide) (hsl1 : ∀ i ∈ tgc1.sl, i ∈ vs1 := by decide)
    (hs : ∀ x, foldedSetIterable iter X.env x = pure x := by intro _; rfl) (hs1 : ∀ env x, foldedSetIterable iter1 env x = pure x := by intro _ _; rfl) :
    DE Φ g W X (.ListComp elt [⟨tg, iter, ifs, 0⟩, ⟨tg1, iter1, ifs1, 0⟩] scope pos) (.comp2 it tgc t it1 tgc1 t1 el vs vs1) := by
  subst hv
  exact PE.from (pe_lc2 hcal hN hi ok hv1 hg ht hi1 hg1 ht1 he hs hs1) fun σ H Q h => lc2_of hsl hsl1 h
theorem datL_last {m : Addr → Prop} {vs : List V} {l : List D} {d : D} (h : DatL g m H vs l) (hl : l.getLast? = some d) : ∃ v, vs[vs.length - 1]? = some v ∧ Dat g m H v d := by
  rw [List.getLast?_eq_getElem?] at hl
  rw [h.length]
  exact h.get hl
theorem de_pop (i : Nat) {x : Str} (hN : X.N[i]? = some x := by rfl) (hv : Vis X.env.scope x := by first | exact Or.inl rfl | exact Or.inr (Or.inl rfl) | exact Or.inr (Or.inr rfl)) (hd : (x == ("__debug__" : Str)) = false := by decide) (hcd : (x == ("__classdict__" : Str)) = false := by decide)
    (hbase : attributeBase (.Name x p) "pop" X.env (eval (.Name x p) X.env) = eval (.Name x p) X.env := by rfl) (hline : (apos.endLine == pos.line) = true := by rfl) : DE Φ g W X (.Call (.Attribute (.Name x p) "pop" apos) [] [] pos) (.pop i) := by
  refine PE.from (pe_bm0 PySem.F.plainAttrs_list PySem.F.slot_list_pop PySem.F.type_list_pop mt_pop (pe_var (i := i) hN hv hd hcd) hbase hline) fun σ H Q ⟨κ, O, e, R, h⟩ => ?_
  have h' : Run g κ O W σ H (match e[i]? with
    | some (.ow l) => (match l.getLast? with
      | some d => Pv.R.ok d (e.set i (.ow l.dropLast))
      | none => .bad)
    | _ => .bad) fun d e' => ∀ v H', Rel g κ O e' σ H' → Keep O H H' → GotX g κ O e' σ H H' v d false → Q v H' := h
  cases z : e[i]? with
  | none => rw [z] at h'; exact h'.elim
  | some u =>
    rw [z] at h'
    cases u with
    | un => exact h'.elim
    | sh d => exact h'.elim
    | ow l =>
      obtain ⟨q, ws, hq, ho, hw, hz, dt⟩ := R.ow i l z
      have h2 : Run g κ O W σ H (match l.getLast? with
        | some d => Pv.R.ok d (e.set i (.ow l.dropLast))
        | none => .bad) _ := h'
      cases hl : l.getLast? with
      | none => rw [hl] at h2; exact h2.elim
      | some d =>
        rw [hl] at h2
        obtain ⟨v, hv, dv⟩ := datL_last dt hl
        have hm : κ.mk' O q := .inr ho
        have kp : ∀ {d : D} {v : V}, Dat g (κ.mk' O) H v d → Dat g (κ.mk' O) (upd H q (.lst ws.dropLast)) v d := fun h => h.mono (fun a o n z => by rw [upd_ne (fun y => n (by rw [y]; exact hm))]; exact z) fun _ _ z _ => z
        have kpL : ∀ {d : List D} {v : List V}, DatL g (κ.mk' O) H v d → DatL g (κ.mk' O) (upd H q (.lst ws.dropLast)) v d := fun h => h.mono (fun a o n z => by rw [upd_ne (fun y => n (by rw [y]; exact hm))]; exact z) fun _ _ z _ => z
        obtain ⟨R', K'⟩ := R.chg z hq (H' := upd H q (.lst ws.dropLast)) (ws := ws.dropLast) (l' := l.dropLast) (fun a o n z => by rw [upd_ne n]; exact z) upd_same (Nat.le_trans (by rw [List.length_dropLast]; omega) hz) (kpL dt.dropLast)
        exact ⟨.ref q, hq, .inl ⟨rfl, ws, SqL.of hw⟩, q, ws, v, rfl, rfl, hw, hv, h2 _ _ R' K' ⟨kp dv, fun z => by cases z⟩⟩
theorem seqIndex_nat {k : Int} {n : Nat} (h0 : 0 ≤ k) (h1 : k < n) : seqIndex? k n = some k.toNat := by
  unfold seqIndex?
  first
    | (rw [if_neg (by omega)]; simp; omega)
    | (simp; omega)
theorem de_popAt (i : Nat) {x : Str} {c : C} (ha : DE Φ g W X ea c) (hN : X.N[i]? = some x := by rfl) (hv : Vis X.env.scope x := by first | exact Or.inl rfl | exact Or.inr (Or.inl rfl) | exact Or.inr (Or.inr rfl)) (hd : (x == ("__debug__" : Str)) = false := by decide) (hcd : (x == ("__classdict__" : Str)) = false := by decide)
    (hbase : attributeBase (.Name x p) "pop" X.env (eval (.Name x p) X.env) = eval (.Name x p) X.env := by rfl)
    (hfew : ((backTo pos (starEach [ea] X.env)).all (fun x => !x.1) && (backToKw pos (keywordEach [] X.env)).all (fun x => x.1.isSome)
      && decide ([ea].length + ([] : List Keyword).length + (if ([] : List Keyword).isEmpty then 0 else 1) < 30)) = true := by rfl)
    (hline : (apos.endLine == pos.line) = true := by rfl) (hs : starEach [ea] X.env = (false, eval ea X.env) :: starEach [] X.env := by rfl) (hplain : (backTo pos (starEach [] X.env)).any (·.1) = false := by rfl) : DE Φ g W X (.Call (.Attribute (.Name x p) "pop" apos) [ea] [] pos) (.popAt i c) := by
  refine PE.from (pe_bm PySem.F.plainAttrs_list PySem.F.slot_list_pop PySem.F.type_list_pop mt_popAt (pe_var (i := i) hN hv hd hcd) (pa_cons ha pa_nil hs) hbase hfew hline hs hplain) fun σ H Q ⟨κ, O, e, R, h⟩ => ?_
  have h' : Run g κ O W σ H (match e[i]? with
    | some (.ow _) => (ev Φ c e).bind fun k e1 => match k, e1[i]? with
      | .int k, some (.ow l) => if 0 ≤ k ∧ k < l.length ∧ k < 2 ^ 62 then (match l[k.toNat]? with
        | some d => Pv.R.ok d (e1.set i (.ow (l.eraseIdx k.toNat)))
        | none => .bad) else .bad
      | _, _ => .bad
    | _ => .bad) fun d e' => ∀ v H', Rel g κ O e' σ H' → Keep O H H' → GotX g κ O e' σ H H' v d false → Q v H' := h
  cases z0 : e[i]? with
  | none => rw [z0] at h'; exact h'.elim
  | some u0 =>
    rw [z0] at h'
    cases u0 with
    | un => exact h'.elim
    | sh d => exact h'.elim
    | ow l0 =>
      obtain ⟨q, ws0, hq, _, hw0, _, _⟩ := R.ow i l0 z0
      refine ⟨.ref q, hq, .inl ⟨rfl, ws0, SqL.of hw0⟩, κ, O, e, R, Run.imp (Run.bind h') fun k e1 _ k1 v H1 R1 K1 G1 => ?_⟩
      have h1 := k1 H1 K1
      cases k with
      | int k =>
        cases G1.dat
        cases z : e1[i]? with
        | none => rw [z] at h1; exact h1.elim
        | some u =>
          rw [z] at h1
          cases u with
          | un => exact h1.elim
          | sh d => exact h1.elim
          | ow l =>
            obtain ⟨q', ws, hq', ho, hw, hz, dt⟩ := R1.ow i l z
            rw [hq] at hq'
            cases hq'
            obtain ⟨⟨c1, c2, c3⟩, h2⟩ := Run.ite (show Run g κ O W σ H1 (if 0 ≤ k ∧ k < l.length ∧ k < 2 ^ 62 then (match l[k.toNat]? with
              | some d => Pv.R.ok d (e1.set i (.ow (l.eraseIdx k.toNat)))
              | none => .bad) else .bad) _ from h1)
            cases hl : l[k.toNat]? with
            | none => rw [hl] at h2; exact h2.elim
            | some d =>
              rw [hl] at h2
              obtain ⟨v, hv, dv⟩ := dt.get hl
              have hm : κ.mk' O q := .inr ho
              have kp : ∀ {d : D} {v : V}, Dat g (κ.mk' O) H1 v d → Dat g (κ.mk' O) (upd H1 q (.lst (ws.eraseIdx k.toNat))) v d := fun h => h.mono (fun a o n z => by rw [upd_ne (fun y => n (by rw [y]; exact hm))]; exact z) fun _ _ z _ => z
              have kpL : ∀ {d : List D} {v : List V}, DatL g (κ.mk' O) H1 v d → DatL g (κ.mk' O) (upd H1 q (.lst (ws.eraseIdx k.toNat))) v d := fun h => h.mono (fun a o n z => by rw [upd_ne (fun y => n (by rw [y]; exact hm))]; exact z) fun _ _ z _ => z
              obtain ⟨R', K'⟩ := R1.chg z hq (H' := upd H1 q (.lst (ws.eraseIdx k.toNat))) (ws := ws.eraseIdx k.toNat) (l' := l.eraseIdx k.toNat) (fun a o n z => by rw [upd_ne n]; exact z) upd_same (Nat.le_trans (List.length_eraseIdx_le _ _) hz) (kpL (dt.eraseIdx _))
              exact ⟨q, ws, k, k.toNat, v, rfl, rfl, hw, by omega, by omega, seqIndex_nat c1 (by rw [dt.length]; exact c2), hv, h2 _ _ R' (K1.trans K') ⟨kp dv, fun z => by cases z⟩⟩
      | _ => exact h1.elim
end
end Pv

namespace Pv
open PySem PySem.Spec PyProof.Rows L2

/-! ## 14. statements -/
structure After (g : Gm) (κ : Kp) (O : Addr → Prop) (H : Hp) (e' : Sl) (σ' : L2.St) (H' : Hp) (O' : Addr → Prop) : Prop where
  rel : Rel g κ O' e' σ' H'
  keep : Keep O H H'
  grew : ∀ a, O' a → O a ∨ H a = none
abbrev KS := Sl → L2.St → Hp → (Addr → Prop) → Prop
def RunS {α : Type} (g : Gm) (κ : Kp) (O : Addr → Prop) (W : WX) (H : Hp) (r : R α) (k : α → KS) : Prop := match r with
  | .ok a e => ∀ σ' H' O', After g κ O H e σ' H' O' → k a e σ' H' O'
  | .ex c p e => ∀ dx σ' H' O', After g κ O H e σ' H' O' → Pay c p dx H' → W (.ref (g.ca c)) dx σ' H'
  | .bad => False
section
variable {α β : Type} {g : Gm} {κ : Kp} {O O1 O2 : Addr → Prop} {W : WX} {σ σ1 σ2 : L2.St} {H H1 H2 : Hp} {e e1 e2 : Sl}
theorem After.refl (R : Rel g κ O e σ H) : After g κ O H e σ H O := ⟨R, Keep.refl _ _, fun _ z => .inl z⟩
theorem After.exp (R : Rel g κ O e σ H1) (K : Keep O H H1) : After g κ O H e σ H1 O := ⟨R, K, fun _ z => .inl z⟩
theorem After.trans (a : After g κ O H e1 σ1 H1 O1) (b : After g κ O1 H1 e2 σ2 H2 O2) : After g κ O H e2 σ2 H2 O2 := by
  refine ⟨b.rel, fun x o n q => ?_, fun x z => ?_⟩
  · refine b.keep x o (fun z => ?_) (a.keep x o n q)
    rcases a.grew x z with y | y
    · exact n y
    · rw [q] at y; cases y
  · rcases b.grew x z with y | y
    · exact a.grew x y
    · by_cases hx : O x
      · exact .inl hx
      · cases q : H x with
        | none => exact .inr rfl
        | some o => rw [a.keep x o hx q] at y; cases y
theorem RunS.imp {r : R α} {k k' : α → KS} (h : RunS g κ O W H r k) (i : ∀ a e σ' H' O', After g κ O H e σ' H' O' → k a e σ' H' O' → k' a e σ' H' O') : RunS g κ O W H r k' := by
  cases r with
  | ok a e => exact fun σ' H' O' A => i a e σ' H' O' A (h σ' H' O' A)
  | ex c p e => exact h
  | bad => exact h
theorem RunS.shift {r : R α} {k : α → KS} {σ1 : L2.St} {e1 : Sl} (A : After g κ O H e1 σ1 H1 O1) (h : RunS g κ O W H r k) : RunS g κ O1 W H1 r k := by
  cases r with
  | ok a e => exact fun σ' H' O' B => h σ' H' O' ⟨B.rel, (A.trans B).keep, (A.trans B).grew⟩
  | ex c p e => exact fun dx σ' H' O' B => h dx σ' H' O' ⟨B.rel, (A.trans B).keep, (A.trans B).grew⟩
  | bad => exact h
theorem RunS.bind {r : R α} {f : α → Sl → R β} {k : β → KS} (h : RunS g κ O W H (r.bind f) k) : RunS g κ O W H r fun a e1 σ1 H1 O1 => RunS g κ O1 W H1 (f a e1) k := by
  cases r with
  | ok a e =>
    intro σ1 H1 O1 A
    exact RunS.shift A (show RunS g κ O W H (f a e) k from h)
  | ex c p e => exact h
  | bad => exact h
/-- an expression ahead -/
theorem RunS.ex1 {r : R α} {f : α → Sl → R β} {k : β → KS} (h : RunS g κ O W H (r.bind f) k) : Run g κ O W σ H r fun d e1 => ∀ H1, Rel g κ O e1 σ H1 → Keep O H H1 → RunS g κ O W H1 (f d e1) k := by
  cases r with
  | ok a e =>
    intro H1 R1 K1
    exact RunS.shift (After.exp R1 K1) (show RunS g κ O W H (f a e) k from h)
  | ex c p e => exact fun dx H' R' K' P => h dx σ H' O (After.exp R' K') P
  | bad => exact h
theorem RunS.opt {o : Option α} {e : Sl} {f : α → Sl → R β} {k : β → KS} (h : RunS g κ O W H ((Pv.opt o e).bind f) k) : ∃ a, o = some a ∧ RunS g κ O W H (f a e) k := by
  cases o with
  | none => exact h.elim
  | some a => exact ⟨a, rfl, h⟩
theorem RunS.ite {c : Prop} [Decidable c] {r : R α} {k : α → KS} (h : RunS g κ O W H (if c then r else .bad) k) : c ∧ RunS g κ O W H r k := by
  by_cases hc : c
  · rw [if_pos hc] at h; exact ⟨hc, h⟩
  · rw [if_neg hc] at h; exact h.elim
end
/-- how a block ends, by the plain meaning's flow -/
def EndS (g : Gm) (κ : Kp) (fk io : Bool) (E : Ends) : Fl → KS := fun f e σ H O => match f with
  | .nx => E.nx σ H
  | .bk => E.bk σ H
  | .ct => E.ct σ H
  | .rt d => ∀ v, GotS g κ.U κ.M κ.H0 H v d (if io = true then ownAt e 0 else none) fk → (∀ a o, ¬ κ.M a → κ.H0 a = some o → H a = some o) → E.rt v H
section
variable (Φ : Orc) (N : Nat) (g : Gm) (W : WX) (fk io : Bool)
def tS (c : S) : TS := fun E σ H => ∃ κ O e, Rel g κ O e σ H ∧ RunS g κ O W H (evS Φ N c e) (EndS g κ fk io E)
def tSs (c : Ss) : TS := fun E σ H => ∃ κ O e, Rel g κ O e σ H ∧ RunS g κ O W H (evSs Φ N c e) (EndS g κ fk io E)
abbrev DS (X : Cx) (s : Stmt) (c : S) : Prop := PS X s (tS Φ N g W fk io c)
abbrev DSs (X : Cx) (s : List Stmt) (c : Ss) : Prop := PSs X s (tSs Φ N g W fk io c)
end
section
variable {Φ : Orc} {N : Nat} {g : Gm} {W : WX} {fk io : Bool} {X : Cx} {κ : Kp} {O : Addr → Prop} {σ : L2.St} {H H1 : Hp} {e : Sl} {ea eb : Expr} {es : List Expr} {pos p apos : Pos} {st : Stmt} {rest : List Stmt} {s : S} {ss : Ss} {c c1 c2 : C}
/-! ### sequences -/
theorem dss_nil : DSs Φ N g W fk io X [] .nil := PSs.from pss_nil fun E σ H ⟨κ, O, e, R, h⟩ => h σ H O (After.refl R)
theorem endS_ok {f : Fl} {E : Ends} (R : Rel g κ O e σ H) (h : RunS g κ O W H (.ok f e) (EndS g κ fk io E)) : EndS g κ fk io E f e σ H O := h σ H O (After.refl R)
theorem dss_cons (h1 : DS Φ N g W fk io X st s) (h2 : DSs Φ N g W fk io X rest ss) : DSs Φ N g W fk io X (st :: rest) (.cons s ss) := by
  refine PSs.from (pss_cons h1 h2) fun E σ H ⟨κ, O, e, R, h⟩ => ?_
  refine ⟨κ, O, e, R, RunS.imp (RunS.bind h) fun f e1 σ1 H1 O1 A h2 => ?_⟩
  cases f with
  | nx => exact ⟨κ, O1, e1, A.rel, h2⟩
  | bk => exact endS_ok (W := W) A.rel h2
  | ct => exact endS_ok (W := W) A.rel h2
  | rt d => exact endS_ok (W := W) A.rel h2
/-- a statement that is never reached -/
theorem ds_nev : DS Φ N g W fk io X st .nev := ⟨fun _ _ _ _ _ _ ⟨κ, O, e, R, h⟩ => h.elim⟩
theorem ds_pass : DS Φ N g W fk io X (.Pass pos) .pass := PS.from ps_pass fun E σ H ⟨κ, O, e, R, h⟩ => h σ H O (After.refl R)
theorem ds_brk : DS Φ N g W fk io X (.Break pos) .brk := PS.from ps_break fun E σ H ⟨κ, O, e, R, h⟩ => h σ H O (After.refl R)
theorem ds_cont : DS Φ N g W fk io X (.Continue pos) .cont := PS.from ps_continue fun E σ H ⟨κ, O, e, R, h⟩ => h σ H O (After.refl R)
/-- a list of one's own is given up, no statement stands for it -/
theorem dss_frz (i : Nat) (h : DSs Φ N g W fk io X rest ss) : DSs Φ N g W fk io X rest (.cons (.frz i) ss) := by
  refine PSs.from h fun E σ H ⟨κ, O, e, R, h⟩ => ?_
  have h' : RunS g κ O W H ((match e[i]? with
    | some (.ow l) => if i = 0 then Pv.R.bad else Pv.R.ok Fl.nx (e.set i (.sh (.lst l)))
    | some _ => .ok .nx e
    | none => .bad).bind fun f e1 => match f with
      | .nx => evSs Φ N ss e1
      | f => .ok f e1) (EndS g κ fk io E) := h
  cases z : e[i]? with
  | none => rw [z] at h'; exact h'.elim
  | some u =>
    rw [z] at h'
    cases u with
    | un => exact ⟨κ, O, e, R, h'⟩
    | sh d => exact ⟨κ, O, e, R, h'⟩
    | ow l =>
      by_cases h0 : i = 0
      · have h2 : RunS g κ O W H ((if i = 0 then Pv.R.bad else Pv.R.ok Fl.nx (e.set i (.sh (.lst l)))).bind _) _ := h'
        rw [if_pos h0] at h2
        exact h2.elim
      · have h2 : RunS g κ O W H ((if i = 0 then Pv.R.bad else Pv.R.ok Fl.nx (e.set i (.sh (.lst l)))).bind _) _ := h'
        rw [if_neg h0] at h2
        obtain ⟨O', R', hO⟩ := R.drop h0 z _ (.inr rfl)
        refine ⟨κ, O', _, R', RunS.shift (e1 := e.set i (.sh (.lst l))) (σ1 := σ) ⟨R', Keep.refl _ _, fun a z => .inl (hO a z)⟩ h2⟩
/-- a slot is forgotten, no statement stands for it -/
theorem dss_kill (i : Nat) (h : DSs Φ N g W fk io X rest ss) : DSs Φ N g W fk io X rest (.cons (.kill i) ss) := by
  refine PSs.from h fun E σ H ⟨κ, O, e, R, h⟩ => ?_
  have h' : RunS g κ O W H ((match e[i]? with
    | some (.ow l) => if i = 0 then Pv.R.bad else Pv.R.ok Fl.nx (e.set i .un)
    | some _ => .ok .nx (e.set i .un)
    | none => .bad).bind fun f e1 => match f with
      | .nx => evSs Φ N ss e1
      | f => .ok f e1) (EndS g κ fk io E) := h
  cases z : e[i]? with
  | none => rw [z] at h'; exact h'.elim
  | some u =>
    rw [z] at h'
    have hlt := (List.getElem?_eq_some_iff.mp z).1
    cases u with
    | un => exact ⟨κ, O, _, R.forget hlt (fun l q => by rw [z] at q; cases q), h'⟩
    | sh d => exact ⟨κ, O, _, R.forget hlt (fun l q => by rw [z] at q; cases q), h'⟩
    | ow l =>
      have h2 : RunS g κ O W H ((if i = 0 then Pv.R.bad else Pv.R.ok Fl.nx (e.set i .un)).bind fun f e1 => match f with
        | .nx => evSs Φ N ss e1
        | f => .ok f e1) (EndS g κ fk io E) := h'
      by_cases h0 : i = 0
      · rw [if_pos h0] at h2
        exact h2.elim
      · rw [if_neg h0] at h2
        obtain ⟨O', R', hO⟩ := R.drop h0 z _ (.inl rfl)
        exact ⟨κ, O', _, R', RunS.shift (e1 := e.set i .un) (σ1 := σ) ⟨R', Keep.refl _ _, fun a z => .inl (hO a z)⟩ h2⟩
/-! ### stores -/
theorem putO_cut {i : Nat} {o : Bool} {d : D} {e2 : Sl} (h : putO e i o d = some e2) : ∃ u, e[i]? = some u ∧ (isOwE u = true → i ≠ 0) ∧ (if o = true then (owD d).map (fun u => e.set i u) else some (e.set i (.sh d))) = some e2 := by
  unfold putO at h
  cases z : e[i]? with
  | none => rw [z] at h; cases h
  | some u =>
    rw [z] at h
    have h2 : (if (isOwE u && decide (i = 0)) = true then none else (if o = true then (owD d).map (fun u => e.set i u) else some (e.set i (.sh d)))) = some e2 := h
    by_cases hc : (isOwE u && decide (i = 0)) = true
    · rw [if_pos hc] at h2; cases h2
    · rw [if_neg hc] at h2
      refine ⟨u, rfl, fun hu hi => hc ?_, h2⟩
      rw [hu, hi]
      rfl
theorem putO_sh {i : Nat} {d : D} {e2 : Sl} {v : V} (R : Rel g κ O e σ H) (h : putO e i false d = some e2) (hd : Dat g (κ.mk' O) H v d) : ∃ O', After g κ O H e2 (σ.set i (some v)) H O' := by
  obtain ⟨u, z, hu, h2⟩ := putO_cut h
  have hlt := (List.getElem?_eq_some_iff.mp z).1
  cases (show some (e.set i (.sh d)) = some e2 from h2)
  cases u with
  | un => exact ⟨O, R.put hlt (fun l y => by rw [z] at y; cases y) hd, Keep.refl _ _, fun _ y => .inl y⟩
  | sh d' => exact ⟨O, R.put hlt (fun l y => by rw [z] at y; cases y) hd, Keep.refl _ _, fun _ y => .inl y⟩
  | ow l =>
    obtain ⟨O', R', hO⟩ := R.drop (hu rfl) z _ (.inl rfl)
    have hd' : Dat g (κ.mk' O') H v d := hd.mono (fun _ _ _ q => q) fun a _ y _ => y.imp id (hO a)
    have R2 := R'.put (i := i) (by rw [List.length_set]; exact hlt) (fun l y => by rw [List.getElem?_set_self hlt] at y; cases y) hd'
    rw [List.set_set] at R2
    exact ⟨O', R2, Keep.refl _ _, fun a y => .inl (hO a y)⟩
theorem own2 {i : Nat} {l : List D} {q : Addr} {vs : List V} (RH : Rel g (κ.hid q) O e σ H) (h0 : κ.H0 q = none) (hU : ¬ κ.mk' O q) (hp : H q = some (.lst vs)) (hz : vs.length ≤ sizeLine) (hd : DatL g (fun a => κ.mk' O a ∨ a = q) H vs l) (hlt : i < e.length) (hno : ∀ l, e[i]? ≠ some (Ent.ow l)) :
    Rel g κ (fun a => O a ∨ a = q) (e.set i (Ent.ow l)) (σ.set i (some (V.ref q))) H := by
  have mm : ∀ a (o : HO), κ.mk' (fun a => O a ∨ a = q) a → H a = some o → (κ.hid q).mk' O a := fun a o z _ => by
    rcases z with z | z | z
    · exact .inl (.inl z)
    · exact .inr z
    · exact .inl (.inr z)
  refine RH.unhide.own hlt hno hp hz h0 hU (fun j d _ h => ?_) (fun j l h => ?_) (hd.mono (fun _ _ _ z => z) fun a _ z _ => ?_)
  · obtain ⟨v, a, b⟩ := RH.sh j d h
    exact ⟨v, a, b.mono (fun _ _ _ z => z) mm⟩
  · obtain ⟨p, ws, a, b, c, f, k⟩ := RH.ow j l h
    exact ⟨p, ws, a, c, k.mono (fun _ _ _ z => z) mm⟩
  · rcases z with z | z | z
    · exact .inl (.inl z)
    · exact .inl (.inr z)
    · exact .inr z
theorem putO_ow {i : Nat} {d : D} {e2 : Sl} {v : V} (R : Rel g κ O e σ H1) (h : putO e i true d = some e2) (K : Keep O H H1) (hm : ∀ a, κ.mk' O a → H a ≠ none) (hn0 : ∀ p, H p = none → κ.H0 p = none) (G : GotX g κ O e σ H H1 v d true) : ∃ O', After g κ O H e2 (σ.set i (some v)) H1 O' := by
  obtain ⟨u, z, hu, h2⟩ := putO_cut h
  have hlt := (List.getElem?_eq_some_iff.mp z).1
  have h3 : (owD d).map (fun u => e.set i u) = some e2 := h2
  cases d with
  | lst l =>
    obtain ⟨q, vs, rfl, hq, hp, hz, hd, RH⟩ := G.new rfl l rfl
    have hU : ¬ κ.mk' O q := fun z => hm q z hq
    cases (show some (e.set i (.ow l)) = some e2 from h3)
    cases u with
    | un => exact ⟨_, own2 RH (hn0 q hq) hU hp hz hd hlt (fun l y => by rw [z] at y; cases y), K, fun a y => y.imp id fun y => by rw [y]; exact hq⟩
    | sh d' => exact ⟨_, own2 RH (hn0 q hq) hU hp hz hd hlt (fun l y => by rw [z] at y; cases y), K, fun a y => y.imp id fun y => by rw [y]; exact hq⟩
    | ow l' =>
      obtain ⟨O', R', hO⟩ := RH.drop (hu rfl) z _ (.inl rfl)
      have R2 := own2 (i := i) (l := l) R' (hn0 q hq) (fun y => hU (y.imp id (hO _))) hp hz (hd.mono (fun _ _ _ z => z) fun a _ y _ => y.imp (fun y => y.imp id (hO a)) id) (by rw [List.length_set]; exact hlt) (fun l y => by rw [List.getElem?_set_self hlt] at y; cases y)
      rw [List.set_set] at R2
      exact ⟨_, R2, K, fun a y => (y.imp (hO a) id).imp id fun y => by rw [y]; exact hq⟩
  | _ => cases h3
theorem ds_set (i : Nat) {x : Str} {px : Pos} (hN : X.N.Nodup) (he : DE Φ g W X ea c) (hi : X.N[i]? = some x := by rfl) (hx : Loc X.env.scope x := by first | exact Or.inl rfl | exact Or.inr rfl) (hs : swapsWith ea (some (.Name x px)) pos.line X.env = pure false := by rfl)
    (hf : X.fn x = true ∨ X.env.scope.names.lookup x = some .local := by first | exact .inr rfl | exact .inl rfl) : DS Φ N g W fk io X (.Assign [.Name x px] ea pos) (.set i c) := by
  refine PS.from (ps_set hN hi hx he hs hf) fun E σ H ⟨κ, O, e, R, h⟩ => ?_
  refine ⟨κ, O, e, R, Run.imp (RunS.ex1 h) fun d e1 _ k v H1 R1 K1 G1 => ?_⟩
  obtain ⟨e2, h2, h3⟩ := RunS.opt (k H1 R1 K1)
  obtain ⟨O', A⟩ := putO_sh R1 h2 G1.dat
  exact h3 _ _ _ A
theorem ds_setOw (i : Nat) {x : Str} {px : Pos} (hN : X.N.Nodup) (he : DE Φ g W X ea c) (hc : isF c = true := by rfl) (hi : X.N[i]? = some x := by rfl) (hx : Loc X.env.scope x := by first | exact Or.inl rfl | exact Or.inr rfl) (hs : swapsWith ea (some (.Name x px)) pos.line X.env = pure false := by rfl)
    (hf : X.fn x = true ∨ X.env.scope.names.lookup x = some .local := by first | exact .inr rfl | exact .inl rfl) : DS Φ N g W fk io X (.Assign [.Name x px] ea pos) (.setOw i c) := by
  refine PS.from (ps_set hN hi hx he hs hf) fun E σ H ⟨κ, O, e, R, h⟩ => ?_
  refine ⟨κ, O, e, R, Run.imp (RunS.ex1 h) fun d e1 hd k v H1 R1 K1 G1 => ?_⟩
  rw [hc] at G1
  have h' : RunS g κ O W H ((opt (putO e1 i true d) e1).bind fun e2 _ => .ok .nx e2) (EndS g κ fk io E) := by
    have h2 := h
    have h3 : RunS g κ O W H ((ev Φ c e).bind fun d e1 => (opt (putO e1 i true d) e1).bind fun e2 _ => .ok .nx e2) (EndS g κ fk io E) := h2
    rw [hd] at h3
    exact h3
  obtain ⟨e2, h2, h3⟩ := RunS.opt h'
  obtain ⟨O', A⟩ := putO_ow R1 h2 K1 R.nomask (fun p z => R.new0 z) G1
  exact h3 _ _ _ A
theorem ds_asg {t : Tg} {et : Expr} (he : DE Φ g W X ea c) (hg : DTg g X et t) (hs : swapsWithSole [et] ea pos.line X.env = pure false := by rfl) (hw : swappedStores [et] ea X.env = pure none := by rfl)
    (h1 : (assignEach [et] X.env).map (·.2) = [assign et X.env] := by rfl) : DS Φ N g W fk io X (.Assign [et] ea pos) (.asg t c) := by
  refine PS.from (ps_asg he hg hs hw h1) fun E σ H ⟨κ, O, e, R, h⟩ => ?_
  refine ⟨κ, O, e, R, Run.imp (RunS.ex1 h) fun d e1 _ k v H1 R1 K1 G1 => ?_⟩
  obtain ⟨e2, h2, h3⟩ := RunS.opt (k H1 R1 K1)
  exact go_tg R1 h2 G1.dat fun σ' R' _ => h3 _ _ _ (After.exp R' (Keep.refl _ _) |> fun A => ⟨A.rel, A.keep, A.grew⟩)
end
end Pv

namespace Pv
open PySem PySem.Spec PyProof.Rows L2
section
variable {Φ : Orc} {N : Nat} {g : Gm} {W : WX} {fk io : Bool} {X : Cx} {κ : Kp} {O : Addr → Prop} {σ : L2.St} {H H1 : Hp} {e : Sl} {ea eb ei : Expr} {es : List Expr} {pos p apos : Pos} {st : Stmt} {rest bd bd2 : List Stmt} {s : S} {ss ss1 ss2 : Ss} {c c1 c2 : C}
/-! ### returns -/
theorem tin_of (R : Rel g κ O e σ H) : TinOut g κ.U κ.M H (if io = true then ownAt e 0 else none) := by
  by_cases hio : io = true
  · rw [if_pos hio]
    cases z : ownAt e 0 with
    | none => trivial
    | some l =>
      intro q hq
      obtain ⟨h1, l0, h2, h3⟩ := R.mo q hq
      have z' : ownAt e 0 = some l0 := by unfold ownAt; rw [h2]
      rw [z'] at z
      cases z
      obtain ⟨q', ws, a, b, c, f, k⟩ := R.ow 0 _ h2
      rw [h3] at a
      cases a
      exact ⟨ws, c, f, k.mono (fun _ _ _ z => z) fun a _ z _ => z.imp id fun z => (R.mo a z).1⟩
  · rw [if_neg hio]; trivial
theorem gotS_of {v : V} {d : D} {fl : Bool} {e1 : Sl} (R : Rel g κ O e σ H) (R1 : Rel g κ O e1 σ H1) (G : GotX g κ O e1 σ H H1 v d fl) (hf : fk = true → fl = true) : GotS g κ.U κ.M κ.H0 H1 v d (if io = true then ownAt e1 0 else none) fk := by
  refine ⟨G.dat.mono (fun _ _ _ z => z) fun a _ z _ => z.imp id fun z => (R1.mo a z).1, tin_of R1, fun f l ed => ?_⟩
  obtain ⟨q, vs, a, b, c, z, k, RH⟩ := G.new (hf f) l ed
  refine ⟨q, vs, a, R.new0 b, c, z, k.mono (fun _ _ _ z => z) fun a _ z _ => z.imp (fun z => z.imp id fun z => (R1.mo a z).1) id, ?_⟩
  exact tin_of (io := io) RH
theorem ds_ret (he : DE Φ g W X ea c) (hf : fk = true → isF c = true := by intro z; first | rfl | cases z) : DS Φ N g W fk io X (.Return (some ea) pos) (.ret c) := by
  refine PS.from (ps_ret he) fun E σ H ⟨κ, O, e, R, h⟩ => ?_
  refine ⟨κ, O, e, R, Run.imp (RunS.ex1 h) fun d e1 _ k v H1 R1 K1 G1 => ?_⟩
  have h2 := endS_ok (W := W) R1 (k H1 R1 K1)
  exact h2 v (gotS_of R R1 G1 hf) fun a o n z => R1.keep a o z n
theorem ds_retN : DS Φ N g W fk io X (.Return none pos) .retN := by
  refine PS.from ps_retN fun E σ H ⟨κ, O, e, R, h⟩ => ?_
  have h2 := endS_ok (W := W) R h
  exact h2 _ (gotS_of (fl := fk) R R (GotX.flag .non (fun l q => by cases q) _) id) fun a o n z => R.keep a o z n
theorem ownAt_ok {i : Nat} {l : List D} (h : ownAt e i = some l) : e[i]? = some (.ow l) := by
  unfold ownAt at h
  cases z : e[i]? with
  | none => rw [z] at h; cases h
  | some u =>
    rw [z] at h
    cases u with
    | ow l' => cases h; rfl
    | un => cases h
    | sh d => cases h
theorem ds_retOw (i : Nat) {x : Str} {px : Pos} (hN : X.N[i]? = some x := by rfl) (hv : Vis X.env.scope x := by first | exact Or.inl rfl | exact Or.inr (Or.inl rfl) | exact Or.inr (Or.inr rfl)) (hd : (x == ("__debug__" : Str)) = false := by decide) (hcd : (x == ("__classdict__" : Str)) = false := by decide) :
    DS Φ N g W fk io X (.Return (some (.Name x px)) pos) (.retOw i) := by
  refine PS.from (ps_ret (pe_var (i := i) hN hv hd hcd)) fun E σ H ⟨κ, O, e, R, h⟩ => ?_
  have h' : RunS g κ O W H (if i = 0 then .bad else (opt (ownAt e i) e).bind fun l e => .ok (.rt (.lst l)) e) (EndS g κ fk io E) := h
  by_cases h0 : i = 0
  · rw [if_pos h0] at h'; exact h'.elim
  · rw [if_neg h0] at h'
    obtain ⟨l, hl, h2⟩ := RunS.opt h'
    have h3 := endS_ok (W := W) R h2
    have z := ownAt_ok hl
    obtain ⟨q, ws, hq, ho, hw, hz, dt⟩ := R.ow i l z
    have nM : ¬ κ.M q := fun y => by
      obtain ⟨_, l0, h4, h5⟩ := R.mo q y
      exact h0 (R.inj i 0 l l0 q z h4 hq h5)
    have n0 : κ.H0 q = none := (R.fr q ho).resolve_left nM
    have mm : ∀ a (o : HO), (κ.U a ∨ κ.M a) ∨ a = q → H a = some o → κ.mk' O a := fun a o y _ => by
      rcases y with (y | y) | y
      · exact .inl y
      · exact .inr (R.mo a y).1
      · rw [y]; exact .inr ho
    refine ⟨.ref q, hq, h3 _ ⟨.lst hw (fun y => y.elim (R.ou q ho) nM) hz (dt.mono (fun _ _ _ z => z) fun a o z w => mm a o (.inl z) w), tin_of R, fun _ l' ed => ?_⟩ fun a o n z => R.keep a o z n⟩
    cases ed
    refine ⟨q, ws, rfl, n0, hw, hz, dt.mono (fun _ _ _ z => z) mm, ?_⟩
    by_cases hio : io = true
    · rw [if_pos hio]
      cases y : ownAt e 0 with
      | none => trivial
      | some l2 =>
        intro q2 hq2
        obtain ⟨_, l0, h4, h5⟩ := R.mo q2 hq2
        rw [ownAt_ok y] at h4
        cases h4
        obtain ⟨q3, ws2, a, b, c, f, k⟩ := R.ow 0 _ (ownAt_ok y)
        rw [h5] at a
        cases a
        refine ⟨ws2, c, f, k.mono (fun _ _ _ z => z) fun a o z w => mm a o ?_ w⟩
        rcases z with (z | z) | z
        · exact .inl (.inl z)
        · exact .inr z
        · exact .inl (.inr z)
    · rw [if_neg hio]; trivial
/-! ### tests, expressions, loops -/
theorem ds_if (hc : DT Φ g W X ea c) (ha : DSs Φ N g W fk io X bd ss1) (hb : DSs Φ N g W fk io X bd2 ss2) : DS Φ N g W fk io X (.If ea bd bd2 pos) (.ifs c ss1 ss2) := by
  refine PS.from (ps_if hc ha hb) fun E σ H ⟨κ, O, e, R, h⟩ => ?_
  have h' : RunS g κ O W H (((ev Φ c e).bind fun d e1 => opt (truth d) e1).bind fun k e1 => if k = true then evSs Φ N ss1 e1 else evSs Φ N ss2 e1) (EndS g κ fk io E) := by
    rw [Run.bindT]
    exact h
  refine ⟨κ, O, e, R, Run.imp (RunS.ex1 h') fun b e1 _ k H1 R1 K1 => ?_⟩
  have h2 := k H1 R1 K1
  cases b with
  | true => exact iteT ⟨κ, O, e1, R1, h2⟩
  | false => exact iteF ⟨κ, O, e1, R1, h2⟩
theorem ds_expr (he : DE Φ g W X ea c) (hs : swapsWith ea none pos.line X.env = pure false := by rfl) : DS Φ N g W fk io X (.Expr ea pos) (.exprS c) := by
  refine PS.from (ps_expr he hs) fun E σ H ⟨κ, O, e, R, h⟩ => ?_
  exact ⟨κ, O, e, R, Run.imp (RunS.ex1 h) fun d e1 _ k v H1 R1 K1 G1 => endS_ok (W := W) R1 (k H1 R1 K1)⟩
theorem ds_while (hp : PassesOwn (model X.prog X.w) X.A X.env X.xe) (hc : DT Φ g W X ea c) (hb : DSs Φ N g W fk io X bd ss) : DS Φ N g W fk io X (.While ea bd [] pos) (.whil c ss) := by
  refine PS.from (ps_while hp hc hb) fun E σ H ⟨κ, O, e, R, h⟩ => ?_
  have h' : RunS g κ O W H (whGo (fun e => (ev Φ c e).bind fun d e1 => opt (truth d) e1) (evSs Φ N ss) N e) (EndS g κ fk io E) := h
  refine ⟨fun m σ' H' => ∃ O' e', After g κ O H e' σ' H' O' ∧ RunS g κ O' W H' (whGo (fun e => (ev Φ c e).bind fun d e1 => opt (truth d) e1) (evSs Φ N ss) m e') (EndS g κ fk io E), ⟨N, O, e, After.refl R, h'⟩, ?_⟩
  rintro m σ1 H1 ⟨O1, e1, A1, h1⟩
  cases m with
  | zero => exact h1.elim
  | succ m =>
    have h2 : RunS g κ O1 W H1 (((ev Φ c e1).bind fun d e1 => opt (truth d) e1).bind fun b e2 => if b = true then (evSs Φ N ss e2).bind fun f e3 => (match f with
      | .nx => whGo (fun e => (ev Φ c e).bind fun d e1 => opt (truth d) e1) (evSs Φ N ss) m e3
      | .ct => whGo (fun e => (ev Φ c e).bind fun d e1 => opt (truth d) e1) (evSs Φ N ss) m e3
      | .bk => .ok .nx e3
      | .rt d => .ok (.rt d) e3)
      else .ok .nx e2) (EndS g κ fk io E) := h1
    have h3 := RunS.ex1 (σ := σ1) h2
    refine ⟨κ, O1, e1, A1.rel, Run.imp h3 fun b e2 _ k H2 R2 K2 => ?_⟩
    have h4 := k H2 R2 K2
    have A2 : After g κ O H e2 σ1 H2 O1 := A1.trans (After.exp R2 K2)
    cases b with
    | false => exact iteF (endS_ok (W := W) R2 h4)
    | true =>
      refine iteT ⟨fun σ' H' => ∃ O' e', After g κ O H e' σ' H' O' ∧ RunS g κ O' W H' (whGo (fun e => (ev Φ c e).bind fun d e1 => opt (truth d) e1) (evSs Φ N ss) m e') (EndS g κ fk io E), fun σ' H' q => ⟨m, Nat.lt_succ_self m, q⟩, ?_⟩
      refine ⟨κ, O1, e2, R2, RunS.imp (RunS.bind h4) fun f e3 σ3 H3 O3 A3 h5 => ?_⟩
      cases f with
      | nx => exact ⟨O3, e3, A2.trans A3, h5⟩
      | ct => exact ⟨O3, e3, A2.trans A3, h5⟩
      | bk => exact endS_ok (W := W) A3.rel h5
      | rt d => exact endS_ok (W := W) A3.rel h5
theorem after_it {l : List D} {J : L2.It} {e' : Sl} {σ' : L2.St} {H' : Hp} {O' : Addr → Prop} (A : After g κ O H e' σ' H' O') (IT : ItOk g l J (κ.mk' O) H) (i : Nat) : (∀ d, l[i]? = some d → J.go i H' ∧ ∀ x H'', J.yld i H' x H'' → (∀ a o, H' a = some o → H'' a = some o) ∧ Dat g (κ.mk' O') H'' x d) ∧ (l.length ≤ i → J.stop i H') :=
  IT i (κ.mk' O') H' (fun a o n => A.keep a o fun z => n (.inr z)) (fun a z => z.elim (fun z => .inl (.inl z)) fun z => (A.grew a z).imp .inr id) A.rel.nomask
theorem ds_for {it : It} {t : Tg} {et : Expr} (hp : PassesOwn (model X.prog X.w) X.A X.env X.xe) (hcal : X.calm = true) (hi : DI Φ g W X et ea it) (hg : DTg g X et t) (hb : DSs Φ N g W fk io X bd ss) (hs : ∀ x, foldedSetIterable ea X.env x = pure x := by intro _; rfl) : DS Φ N g W fk io X (.For et ea bd [] pos) (.forS it t ss) := by
  refine PS.from (ps_for hp hcal hi hg hb hs) fun E σ H ⟨κ, O, e, R, h⟩ => ?_
  refine ⟨κ, O, e, R, Run.imp (RunS.ex1 h) fun l e1 _ k J H1 R1 K1 IT => ?_⟩
  have h1 := k H1 R1 K1
  refine ⟨fun i m σ' H' => ∃ O' e', m = l.length - i ∧ i ≤ l.length ∧ After g κ O H1 e' σ' H' O' ∧ RunS g κ O' W H' (forGo (fun d e => put e t d) (evSs Φ N ss) (l.drop i) e') (EndS g κ fk io E), ⟨l.length, O, e1, rfl, Nat.zero_le _, After.refl R1, h1⟩, ?_⟩
  rintro i m σ2 H2 ⟨O2, e2, rfl, hle, A2, h2⟩
  have it1 := after_it A2 IT i
  cases hl : l.drop i with
  | nil =>
    have hi : l.length ≤ i := List.drop_eq_nil_iff.mp hl
    rw [hl] at h2
    exact .inl ⟨it1.2 hi, endS_ok (W := W) A2.rel h2⟩
  | cons d restl =>
    obtain ⟨hd, hrest, hlt⟩ := drop_cons hl
    rw [hl] at h2
    obtain ⟨hgo, hyld⟩ := it1.1 d hd
    have h3 : RunS g κ O2 W H2 ((opt (put e2 t d) e2).bind fun e1 _ => (evSs Φ N ss e1).bind fun f e2 => match f with
      | .nx => forGo (fun d e => put e t d) (evSs Φ N ss) restl e2
      | .ct => forGo (fun d e => put e t d) (evSs Φ N ss) restl e2
      | .bk => .ok .nx e2
      | .rt d => .ok (.rt d) e2) (EndS g κ fk io E) := h2
    obtain ⟨e3, hput, h4⟩ := RunS.opt h3
    refine .inr ⟨hgo, fun σ' H' => ∃ O' e', After g κ O H1 e' σ' H' O' ∧ RunS g κ O' W H' (forGo (fun d e => put e t d) (evSs Φ N ss) restl e') (EndS g κ fk io E), fun σ' H' ⟨O', e', a, b⟩ => ⟨l.length - (i + 1), by omega, O', e', rfl, hlt, a, by rw [hrest]; exact b⟩, fun x H3 hy => ?_⟩
    obtain ⟨ext, dx⟩ := hyld x H3 hy
    refine go_tg (A2.rel.grow ext) hput dx fun σ3 R3 _ => ?_
    have A3 : After g κ O2 H2 e3 σ3 H3 O2 := ⟨R3, fun a o _ q => ext a o q, fun _ z => .inl z⟩
    refine ⟨κ, O2, e3, R3, RunS.imp (RunS.bind (RunS.shift A3 h4)) fun f e4 σ4 H4 O4 A4 h5 => ?_⟩
    have A5 := A2.trans (A3.trans A4)
    cases f with
    | nx => exact ⟨O4, e4, A5, h5⟩
    | ct => exact ⟨O4, e4, A5, h5⟩
    | bk => exact endS_ok (W := W) A4.rel h5
    | rt d => exact endS_ok (W := W) A4.rel h5
/-! ### what changes a list of one's own -/
theorem chg_after {i : Nat} {l l' : List D} {q : Addr} {ws : List V} {H' : Hp} (R : Rel g κ O e σ H) (hi : e[i]? = some (Ent.ow l)) (hp : σ[i]? = some (some (V.ref q))) (k : ∀ a o, a ≠ q → H a = some o → H' a = some o)
    (hn : H' q = some (.lst ws)) (hz : ws.length ≤ sizeLine) (hd : DatL g (κ.mk' O) H' ws l') : After g κ O H (e.set i (Ent.ow l')) σ H' O := by
  obtain ⟨a, b⟩ := R.chg hi hp k hn hz hd
  exact ⟨a, b, fun _ z => .inl z⟩
theorem upd_own {q : Addr} {u : HO} {v : V} {d : D} (hq : κ.mk' O q) (h : Dat g (κ.mk' O) H v d) : Dat g (κ.mk' O) (upd H q u) v d := h.mono (fun a o n z => by rw [upd_ne (fun y => n (by rw [y]; exact hq))]; exact z) fun _ _ z _ => z
theorem upd_ownL {q : Addr} {u : HO} {v : List V} {d : List D} (hq : κ.mk' O q) (h : DatL g (κ.mk' O) H v d) : DatL g (κ.mk' O) (upd H q u) v d := h.mono (fun a o n z => by rw [upd_ne (fun y => n (by rw [y]; exact hq))]; exact z) fun _ _ z _ => z
theorem ds_app (i : Nat) {x : Str} (he : DE Φ g W X ea c) (hN : X.N[i]? = some x := by rfl) (hv : Vis X.env.scope x := by first | exact Or.inl rfl | exact Or.inr (Or.inl rfl) | exact Or.inr (Or.inr rfl)) (hd : (x == ("__debug__" : Str)) = false := by decide) (hcd : (x == ("__classdict__" : Str)) = false := by decide)
    (hbase : attributeBase (.Name x p) "append" X.env (eval (.Name x p) X.env) = eval (.Name x p) X.env := by rfl) {cpos : Pos}
    (hfew : ((backTo cpos (starEach [ea] X.env)).all (fun x => !x.1) && (backToKw cpos (keywordEach [] X.env)).all (fun x => x.1.isSome)
      && decide ([ea].length + ([] : List Keyword).length + (if ([] : List Keyword).isEmpty then 0 else 1) < 30)) = true := by rfl)
    (hline : (apos.endLine == cpos.line) = true := by rfl) (hs : starEach [ea] X.env = (false, eval ea X.env) :: starEach [] X.env := by rfl) (hplain : (backTo cpos (starEach [] X.env)).any (·.1) = false := by rfl)
    (hsw : swapsWith (.Call (.Attribute (.Name x p) "append" apos) [ea] [] cpos) none pos.line X.env = pure false := by rfl) : DS Φ N g W fk io X (.Expr (.Call (.Attribute (.Name x p) "append" apos) [ea] [] cpos) pos) (.app i c) := by
  refine PS.from (ps_expr (pe_bm PySem.F.plainAttrs_list PySem.F.slot_list_append PySem.F.type_list_append mt_append (pe_var (i := i) hN hv hd hcd) (pa_cons he pa_nil hs) hbase hfew hline hs hplain) hsw) fun E σ H ⟨κ, O, e, R, h⟩ => ?_
  have h' : RunS g κ O W H (match e[i]? with
    | some (.ow _) => (ev Φ c e).bind fun d e1 => (opt (ownAt e1 i) e1).bind fun l e1 => if l.length < LIM then .ok .nx (e1.set i (.ow (l ++ [d]))) else .bad
    | _ => .bad) (EndS g κ fk io E) := h
  cases z : e[i]? with
  | none => rw [z] at h'; exact h'.elim
  | some u =>
    rw [z] at h'
    cases u with
    | un => exact h'.elim
    | sh d => exact h'.elim
    | ow l0 =>
      obtain ⟨q, ws0, hq, _, hw0, _, _⟩ := R.ow i l0 z
      refine ⟨.ref q, hq, .inl ⟨rfl, ws0, SqL.of hw0⟩, κ, O, e, R, Run.imp (RunS.ex1 h') fun d e1 _ k v H1 R1 K1 G1 => ?_⟩
      obtain ⟨l, hl, h2⟩ := RunS.opt (k H1 R1 K1)
      obtain ⟨hlim, h3⟩ := RunS.ite h2
      have z1 := ownAt_ok hl
      obtain ⟨q', ws, hq', ho, hw, hz, dt⟩ := R1.ow i l z1
      rw [hq] at hq'
      cases hq'
      have hzl : ws.length < sizeLine := by rw [dt.length]; exact liml hlim
      refine ⟨q, ws, v, rfl, rfl, hw, hzl, ?_⟩
      exact h3 σ _ O (chg_after R1 z1 hq (H' := upd H1 q (.lst (ws ++ [v]))) (fun a o n z => by rw [upd_ne n]; exact z) upd_same (by rw [List.length_append]; exact hzl) (upd_ownL (.inr ho) (dt.append (.cons G1.dat .nil))))
theorem ds_ext (i : Nat) {x : Str} (he : DE Φ g W X ea c) (hN : X.N[i]? = some x := by rfl) (hv : Vis X.env.scope x := by first | exact Or.inl rfl | exact Or.inr (Or.inl rfl) | exact Or.inr (Or.inr rfl)) (hd : (x == ("__debug__" : Str)) = false := by decide) (hcd : (x == ("__classdict__" : Str)) = false := by decide)
    (hbase : attributeBase (.Name x p) "extend" X.env (eval (.Name x p) X.env) = eval (.Name x p) X.env := by rfl) {cpos : Pos}
    (hfew : ((backTo cpos (starEach [ea] X.env)).all (fun x => !x.1) && (backToKw cpos (keywordEach [] X.env)).all (fun x => x.1.isSome)
      && decide ([ea].length + ([] : List Keyword).length + (if ([] : List Keyword).isEmpty then 0 else 1) < 30)) = true := by rfl)
    (hline : (apos.endLine == cpos.line) = true := by rfl) (hs : starEach [ea] X.env = (false, eval ea X.env) :: starEach [] X.env := by rfl) (hplain : (backTo cpos (starEach [] X.env)).any (·.1) = false := by rfl)
    (hsw : swapsWith (.Call (.Attribute (.Name x p) "extend" apos) [ea] [] cpos) none pos.line X.env = pure false := by rfl) : DS Φ N g W fk io X (.Expr (.Call (.Attribute (.Name x p) "extend" apos) [ea] [] cpos) pos) (.ext i c) := by
  refine PS.from (ps_expr (pe_bm PySem.F.plainAttrs_list PySem.F.slot_list_extend PySem.F.type_list_extend mt_extend (pe_var (i := i) hN hv hd hcd) (pa_cons he pa_nil hs) hbase hfew hline hs hplain) hsw) fun E σ H ⟨κ, O, e, R, h⟩ => ?_
  have h' : RunS g κ O W H (match e[i]? with
    | some (.ow _) => (ev Φ c e).bind fun d e1 => (opt (ownAt e1 i) e1).bind fun l e1 => match d with
      | .lst l' => if l.length + l'.length ≤ LIM then .ok .nx (e1.set i (.ow (l ++ l'))) else .bad
      | _ => .bad
    | _ => .bad) (EndS g κ fk io E) := h
  cases z : e[i]? with
  | none => rw [z] at h'; exact h'.elim
  | some u =>
    rw [z] at h'
    cases u with
    | un => exact h'.elim
    | sh d => exact h'.elim
    | ow l0 =>
      obtain ⟨q, ws0, hq, _, hw0, _, _⟩ := R.ow i l0 z
      refine ⟨.ref q, hq, .inl ⟨rfl, ws0, SqL.of hw0⟩, κ, O, e, R, Run.imp (RunS.ex1 h') fun d e1 _ k v H1 R1 K1 G1 => ?_⟩
      obtain ⟨l, hl, h2⟩ := RunS.opt (k H1 R1 K1)
      cases d with
      | lst l' =>
        obtain ⟨hlim, h3⟩ := RunS.ite h2
        have z1 := ownAt_ok hl
        obtain ⟨q', ws, hq', ho, hw, hz, dt⟩ := R1.ow i l z1
        rw [hq] at hq'
        cases hq'
        obtain ⟨qb, zs, rfl, hb, hzb, db⟩ := DatW.lst (.inl G1.dat)
        have hzl : ws.length + zs.length ≤ sizeLine := by rw [dt.length, db.length]; exact lim hlim
        refine ⟨q, qb, ws, zs, rfl, rfl, hw, hb, hzl, ?_⟩
        exact h3 σ _ O (chg_after R1 z1 hq (H' := upd H1 q (.lst (ws ++ zs))) (fun a o n z => by rw [upd_ne n]; exact z) upd_same (by rw [List.length_append]; exact hzl) (upd_ownL (.inr ho) (dt.append db)))
      | _ => exact h2.elim
theorem ixN_lt {n : Nat} {k : Int} {j : Nat} (h : ixN n k = some j) : j < n := by
  unfold ixN at h
  split at h
  · split at h
    · cases h; omega
    · cases h
  · split at h
    · cases h; omega
    · cases h
theorem ds_subset (i : Nat) {x : Str} {ps : Pos} {ck : C} (he : DE Φ g W X ea c) (hk : DE Φ g W X ei ck) (hN : X.N[i]? = some x := by rfl) (hv : Vis X.env.scope x := by first | exact Or.inl rfl | exact Or.inr (Or.inl rfl) | exact Or.inr (Or.inr rfl)) (hd : (x == ("__debug__" : Str)) = false := by decide) (hcd : (x == ("__classdict__" : Str)) = false := by decide)
    (ha : ∀ v, assign (.Subscript (.Name x p) ei ps) X.env v = (do
      let ov ← holding [v] (eval (.Name x p) X.env)
      let iv ← holding [v, ov] (eval ei X.env)
      standAt ps
      holding [v, ov, iv] (setItem ov iv v)
      release [v, ov, iv] []) := by intro _; rfl)
    (hs : swapsWithSole [.Subscript (.Name x p) ei ps] ea pos.line X.env = pure false := by rfl) (hw : swappedStores [.Subscript (.Name x p) ei ps] ea X.env = pure none := by rfl)
    (h1 : (assignEach [.Subscript (.Name x p) ei ps] X.env).map (·.2) = [assign (.Subscript (.Name x p) ei ps) X.env] := by rfl) :
    DS Φ N g W fk io X (.Assign [.Subscript (.Name x p) ei ps] ea pos) (.subset i ck c) := by
  refine PS.from (ps_asg he (pg_sub (pe_var (i := i) hN hv hd hcd) hk set_list ha) hs hw h1) fun E σ H ⟨κ, O, e, R, h⟩ => ?_
  have h' : RunS g κ O W H (match e[i]? with
    | some (.ow _) => (ev Φ c e).bind fun d e1 => (ev Φ ck e1).bind fun k e2 => (opt (ownAt e2 i) e2).bind fun l e2 => match k with
      | .int k => (opt (ixN l.length k) e2).bind fun j e2 => .ok .nx (e2.set i (.ow (l.set j d)))
      | _ => .bad
    | _ => .bad) (EndS g κ fk io E) := h
  cases z : e[i]? with
  | none => rw [z] at h'; exact h'.elim
  | some u =>
    rw [z] at h'
    cases u with
    | un => exact h'.elim
    | sh d => exact h'.elim
    | ow l0 =>
      obtain ⟨q, ws0, hq, _, hw0, _, _⟩ := R.ow i l0 z
      refine ⟨κ, O, e, R, Run.imp (RunS.ex1 h') fun d e1 _ k v H1 R1 K1 G1 => ?_⟩
      refine ⟨.ref q, hq, κ, O, e1, R1, Run.imp (RunS.ex1 (k H1 R1 K1)) fun dk e2 _ k2 w H2 R2 K2 G2 => ?_⟩
      obtain ⟨l, hl, h2⟩ := RunS.opt (k2 H2 R2 K2)
      have z1 := ownAt_ok hl
      obtain ⟨q', ws, hq', ho, hw, hz, dt⟩ := R2.ow i l z1
      rw [hq] at hq'
      cases hq'
      cases dk with
      | int k =>
        cases G2.dat
        obtain ⟨j, hj, h3⟩ := RunS.opt (show RunS g κ O W H2 ((opt (ixN l.length k) e2).bind fun j e2 => .ok .nx (e2.set i (.ow (l.set j d)))) (EndS g κ fk io E) from h2)
        refine ⟨q, ws, k, j, rfl, rfl, hw, by rw [dt.length]; exact hj, ?_⟩
        exact h3 σ _ O (chg_after R2 z1 hq (H' := upd H2 q (.lst (ws.set j v))) (fun a o n z => by rw [upd_ne n]; exact z) upd_same (by rw [List.length_set]; exact hz) (upd_ownL (.inr ho) (dt.set (K2.dat G1.dat) j)))
      | _ => exact h2.elim
/-! ### a op= b, ints -/
def rIp (p : P2) : TIp := fun x y H Q => ∃ i j z, x = .int i ∧ y = .int j ∧ augOp p (.int i) (.int j) = some (.int z) ∧ Q (.int z) H
theorem ip_of {op : Operator} {p : P2} (h : (op = .Add ∧ p = .add) ∨ (op = .Sub ∧ p = .sub) ∨ (op = .Mult ∧ p = .mul)) : PIp X op (rIp p) := by
  intro pins s σ H x y v u Q I r1 r2 h2
  obtain ⟨i, j, z, e1, e2, e3, q⟩ := h2
  subst e1; subst e2
  obtain ⟨t, rfl⟩ := r1
  obtain ⟨t', rfl⟩ := r2
  rcases h with ⟨rfl, rfl⟩ | ⟨rfl, rfl⟩ | ⟨rfl, rfl⟩
  · cases e3
    exact iadd_int ⟨.int _, H, I.tok _, ⟨_, rfl⟩, q⟩
  · cases e3
    exact isub_int ⟨.int _, H, I.tok _, ⟨_, rfl⟩, q⟩
  · obtain ⟨hc, e4⟩ := ite_some (show (if small i || small j then some (D.int (i * j)) else none) = some (D.int z) from e3)
    cases e4
    refine PySem.AutoIntOps.imul_0 ?_ ?_
    · exact ⟨.int _, H, I.tok _, ⟨_, rfl⟩, q⟩
    · rw [Bool.or_eq_true] at hc
      rcases hc with hc | hc
      · exact .of_left (intBits_le_64 (small_ok hc).1 (small_ok hc).2)
      · exact .of_right (intBits_le_64 (small_ok hc).1 (small_ok hc).2)
theorem augOp_int {p : P2} {x y z : D} (h : augOp p x y = some z) : ∃ i j k, x = .int i ∧ y = .int j ∧ z = .int k := by
  cases p with
  | add => cases x <;> cases y <;> first | (cases h; exact ⟨_, _, _, rfl, rfl, rfl⟩) | cases h
  | sub => cases x <;> cases y <;> first | (cases h; exact ⟨_, _, _, rfl, rfl, rfl⟩) | cases h
  | mul =>
    cases x with
    | int i =>
      cases y with
      | int j =>
        obtain ⟨_, e⟩ := ite_some (show (if small i || small j then some (D.int (i * j)) else none) = some z from h)
        exact ⟨_, _, _, rfl, rfl, e.symm⟩
      | _ => cases h
    | _ => cases y <;> cases h
  | _ => cases x <;> cases y <;> cases h
theorem ds_aug (i : Nat) (p : P2) {op : Operator} {x : Str} {px : Pos} (hN : X.N.Nodup) (he : DE Φ g W X ea c) (ho : (op = .Add ∧ p = .add) ∨ (op = .Sub ∧ p = .sub) ∨ (op = .Mult ∧ p = .mul) := by first | exact .inl ⟨rfl, rfl⟩ | exact .inr (.inl ⟨rfl, rfl⟩) | exact .inr (.inr ⟨rfl, rfl⟩))
    (hi : X.N[i]? = some x := by rfl) (hx : Loc X.env.scope x := by first | exact Or.inl rfl | exact Or.inr rfl) (hf : X.fn x = true ∨ X.env.scope.names.lookup x = some .local := by first | exact .inr rfl | exact .inl rfl) : DS Φ N g W fk io X (.AugAssign (.Name x px) op ea pos) (.aug i p c) := by
  refine PS.from (ps_aug hN hi hx he (ip_of ho) hf) fun E σ H ⟨κ, O, e, R, h⟩ => ?_
  have h' : RunS g κ O W H (match e[i]? with
    | some (.sh x) => (ev Φ c e).bind fun d e1 => (opt (augOp p x d) e1).bind fun z e1 => (opt (put1 e1 i z) e1).bind fun e2 _ => .ok .nx e2
    | _ => .bad) (EndS g κ fk io E) := h
  cases z : e[i]? with
  | none => rw [z] at h'; exact h'.elim
  | some u =>
    rw [z] at h'
    cases u with
    | un => exact h'.elim
    | ow l => exact h'.elim
    | sh d0 =>
      obtain ⟨v0, hv0, dv0⟩ := R.sh i d0 z
      refine ⟨v0, hv0, κ, O, e, R, Run.imp (RunS.ex1 h') fun d e1 _ k v H1 R1 K1 G1 => ?_⟩
      obtain ⟨zz, hz, h2⟩ := RunS.opt (k H1 R1 K1)
      obtain ⟨e2, hp, h3⟩ := RunS.opt h2
      obtain ⟨a, b, w, rfl, rfl, rfl⟩ := augOp_int hz
      cases dv0
      cases G1.dat
      obtain ⟨l1, l2, rfl⟩ := put1_ok hp
      exact ⟨a, b, w, rfl, rfl, hz, h3 _ _ O ⟨R1.put l1 l2 (.int w), Keep.refl _ _, fun _ z => .inl z⟩⟩
end
end Pv

namespace Pv
open PySem PySem.Spec PyProof.Rows L2
section
variable {Φ : Orc} {N : Nat} {g : Gm} {W : WX} {fk io : Bool} {X : Cx} {κ : Kp} {O : Addr → Prop} {σ : L2.St} {H H1 : Hp} {e : Sl} {ea eb ei : Expr} {es : List Expr} {pos p apos : Pos} {c a b : C} {i j : Nat}
/-! ### a, b = x, y -/
theorem st_sh {d : D} {e2 : Sl} {v : V} (R : Rel g κ O e σ H) (h : putO e i false d = some e2) (hd : Dat g (κ.mk' O) H v d) : ∃ O', Rel g κ O' e2 (σ.set i (some v)) H ∧ ∀ a, O' a → O a := by
  obtain ⟨u, z, hu, h2⟩ := putO_cut h
  have hlt := (List.getElem?_eq_some_iff.mp z).1
  cases (show some (e.set i (.sh d)) = some e2 from h2)
  cases u with
  | un => exact ⟨O, R.put hlt (fun l y => by rw [z] at y; cases y) hd, fun _ y => y⟩
  | sh d' => exact ⟨O, R.put hlt (fun l y => by rw [z] at y; cases y) hd, fun _ y => y⟩
  | ow l =>
    obtain ⟨O', R', hO⟩ := R.drop (hu rfl) z _ (.inl rfl)
    have hd' : Dat g (κ.mk' O') H v d := hd.mono (fun _ _ _ q => q) fun a _ y _ => y.imp id (hO a)
    have R2 := R'.put (i := i) (by rw [List.length_set]; exact hlt) (fun l y => by rw [List.getElem?_set_self hlt] at y; cases y) hd'
    rw [List.set_set] at R2
    exact ⟨O', R2, hO⟩
theorem st_ow {l : List D} {e2 : Sl} {q : Addr} {vs : List V} (RH : Rel g (κ.hid q) O e σ H) (h : putO e i true (.lst l) = some e2) (h0 : κ.H0 q = none) (hU : ¬ κ.mk' O q) (hp : H q = some (.lst vs)) (hz : vs.length ≤ sizeLine) (hd : DatL g (fun a => κ.mk' O a ∨ a = q) H vs l) :
    ∃ O', Rel g κ O' e2 (σ.set i (some (V.ref q))) H ∧ ∀ a, O' a → O a ∨ a = q := by
  obtain ⟨u, z, hu, h2⟩ := putO_cut h
  have hlt := (List.getElem?_eq_some_iff.mp z).1
  cases (show some (e.set i (.ow l)) = some e2 from h2)
  cases u with
  | un => exact ⟨_, own2 RH h0 hU hp hz hd hlt (fun l y => by rw [z] at y; cases y), fun a y => y⟩
  | sh d' => exact ⟨_, own2 RH h0 hU hp hz hd hlt (fun l y => by rw [z] at y; cases y), fun a y => y⟩
  | ow l' =>
    obtain ⟨O', R', hO⟩ := RH.drop (hu rfl) z _ (.inl rfl)
    have R2 := own2 (i := i) (l := l) R' h0 (fun y => hU (y.imp id (hO _))) hp hz (hd.mono (fun _ _ _ z => z) fun a _ y _ => y.imp (fun y => y.imp id (hO a)) id) (by rw [List.length_set]; exact hlt) (fun l y => by rw [List.getElem?_set_self hlt] at y; cases y)
    rw [List.set_set] at R2
    exact ⟨_, R2, fun a y => y.imp (hO a) id⟩
theorem Run.hid {α : Type} {r : Pv.R α} {k : α → Sl → Prop} {q : Addr} (h : Run g κ O W σ H r k) : Run g (κ.hid q) O W σ H r k := by
  cases r with
  | ok a e => exact h
  | ex c p e => exact fun dx H' R K P => h dx H' R.unhide K P
  | bad => exact h
theorem hid_comm (κ : Kp) (p q : Addr) : (κ.hid p).hid q = (κ.hid q).hid p := by
  have : (fun a => (κ.U a ∨ a = p) ∨ a = q) = fun a => (κ.U a ∨ a = q) ∨ a = p := by
    funext a
    exact propext ⟨fun z => by rcases z with (z | z) | z <;> simp [z], fun z => by rcases z with (z | z) | z <;> simp [z]⟩
  show ({ κ with U := fun a => (κ.U a ∨ a = p) ∨ a = q } : Kp) = { κ with U := fun a => (κ.U a ∨ a = q) ∨ a = p }
  rw [this]
theorem owD_lst {d : D} {e2 : Sl} (h : putO e i true d = some e2) : ∃ l, d = .lst l := by
  obtain ⟨u, z, hu, h2⟩ := putO_cut h
  have h3 : (owD d).map (fun u => e.set i u) = some e2 := h2
  cases d with
  | lst l => exact ⟨l, rfl⟩
  | _ => cases h3
theorem hid_back {q : Addr} {v : V} {d : D} (hq : H q = none) (h : Dat g (κ.mk' O) H v d) : Dat g ((κ.hid q).mk' O) H v d :=
  h.mono (fun _ _ _ z => z) fun a o z y => by
    rcases z with (z | z) | z
    · exact .inl z
    · rw [z, hq] at y; cases y
    · exact .inr z
theorem par_core {oa ob : Bool} {E : Ends} (ha : oa = true → isF a = true) (hb : ob = true → isF b = true) (h : tS Φ N g W fk io (.par i j a b oa ob) E σ H) : tPar i j (tCons (tEv Φ g W a) (tCons (tEv Φ g W b) tNil)) E σ H := by
  obtain ⟨κ, O, e, R, h⟩ := h
  have h : RunS g κ O W H ((ev Φ a e).bind fun d e1 => (ev Φ b e1).bind fun d' e2 => (opt (putO e2 i oa d) e2).bind fun e3 _ => (opt (putO e3 j ob d') e3).bind fun e4 _ => .ok .nx e4) (EndS g κ fk io E) := h
  refine ⟨κ, O, e, R, Run.imp (RunS.ex1 h) fun d e1 had k v H1 R1 K1 G1 => ?_⟩
  have h1 := k H1 R1 K1
  -- the end, whatever was owned
  have fin : ∀ {e2 e3 e4 : Sl} {d' : D} {H2 : Hp} {σ4 : L2.St} {O4 : Addr → Prop}, ev Φ b e1 = .ok d' e2 → Keep O H1 H2 → putO e2 i oa d = some e3 → putO e3 j ob d' = some e4 → Rel g κ O4 e4 σ4 H2 → (∀ x, O4 x → O x ∨ H x = none) → E.nx σ4 H2 := by
    intro e2 e3 e4 d' H2 σ4 O4 hb2 K2 p1 p2 R4 gr
    have h2 : RunS g κ O W H ((ev Φ b e1).bind fun d' e2 => (opt (putO e2 i oa d) e2).bind fun e3 _ => (opt (putO e3 j ob d') e3).bind fun e4 _ => .ok .nx e4) (EndS g κ fk io E) := by
      have := h
      rw [had] at this
      exact this
    rw [hb2] at h2
    have h3 : RunS g κ O W H ((opt (putO e2 i oa d) e2).bind fun e3 _ => (opt (putO e3 j ob d') e3).bind fun e4 _ => .ok .nx e4) (EndS g κ fk io E) := h2
    rw [p1] at h3
    have h4 : RunS g κ O W H ((opt (putO e3 j ob d') e3).bind fun e4 _ => .ok .nx e4) (EndS g κ fk io E) := h3
    rw [p2] at h4
    exact h4 σ4 H2 O4 ⟨R4, K1.trans K2, gr⟩
  have cut : ∀ {e2 : Sl} {d' : D} {H2 : Hp}, RunS g κ O W H2 ((opt (putO e2 i oa d) e2).bind fun e3 _ => (opt (putO e3 j ob d') e3).bind fun e4 _ => .ok .nx e4) (EndS g κ fk io E) → ∃ e3 e4, putO e2 i oa d = some e3 ∧ putO e3 j ob d' = some e4 := by
    intro e2 d' H2 h2
    obtain ⟨e3, p1, h3⟩ := RunS.opt h2
    obtain ⟨e4, p2, _⟩ := RunS.opt h3
    exact ⟨e3, e4, p1, p2⟩
  have kk := RunS.ex1 (σ := σ) h1
  cases oa with
  | false =>
    refine ⟨κ, O, e1, R1, Run.imp kk fun d' e2 hb2 k2 w H2 R2 K2 G2 => ?_⟩
    refine ⟨v, w, rfl, ?_⟩
    obtain ⟨e3, e4, p1, p2⟩ := cut (k2 H2 R2 K2)
    have dv := K2.dat G1.dat
    cases ob with
    | false =>
      obtain ⟨O3, R3, i3⟩ := st_sh R2 p1 dv
      obtain ⟨O4, R4, i4⟩ := st_sh R3 p2 (G2.dat.mono (fun _ _ _ z => z) fun x _ y _ => y.imp id (i3 x))
      exact fin hb2 K2 p1 p2 R4 fun x z => .inl (i3 x (i4 x z))
    | true =>
      obtain ⟨l, rfl⟩ := owD_lst p2
      obtain ⟨q, vs, rfl, q1, q2, q3, q4, RH⟩ := G2.new (hb rfl) l rfl
      have hU : ¬ κ.mk' O q := fun z => R1.nomask q z q1
      have dv' : Dat g ((κ.hid q).mk' O) H2 v d := Dat.mono (fun x o n z => K2 x o (fun y => n (.inr y)) z) (fun _ _ z _ => z) (hid_back q1 G1.dat)
      obtain ⟨O3, R3, i3⟩ := st_sh RH p1 dv'
      obtain ⟨O4, R4, i4⟩ := st_ow R3 p2 (R1.new0 q1) (fun z => hU (z.imp id (i3 q))) q2 q3 (q4.mono (fun _ _ _ z => z) fun x _ y _ => y.imp (fun y => y.imp id (i3 x)) id)
      refine fin hb2 K2 p1 p2 R4 fun x z => ?_
      rcases i4 x z with y | y
      · exact .inl (i3 x y)
      · rw [y]; exact .inr (new_back K1 R1.noO q1)
  | true =>
    by_cases hd : ∃ l, d = .lst l
    · obtain ⟨l, rfl⟩ := hd
      obtain ⟨q1, vs1, rfl, hq1, hp1, hz1, hd1, RH1⟩ := G1.new (ha rfl) l rfl
      have hU1 : ¬ κ.mk' O q1 := fun z => R.nomask q1 z hq1
      refine ⟨κ.hid q1, O, e1, RH1, Run.imp (Run.hid kk) fun d' e2 hb2 k2 w H2 R2 K2 G2 => ?_⟩
      refine ⟨.ref q1, w, rfl, ?_⟩
      obtain ⟨e3, e4, p1, p2⟩ := cut (k2 H2 R2.unhide K2)
      have hp1' : H2 q1 = some (.lst vs1) := K2 q1 _ (fun z => hU1 (.inr z)) hp1
      have hd1' : DatL g (fun x => κ.mk' O x ∨ x = q1) H2 vs1 l := hd1.mono (fun x o n z => K2 x o (fun y => n (.inl (.inr y))) z) fun _ _ z _ => z
      have n1 : κ.H0 q1 = none := R.new0 hq1
      cases ob with
      | false =>
        obtain ⟨O3, R3, i3⟩ := st_ow R2 p1 n1 hU1 hp1' hz1 hd1'
        obtain ⟨O4, R4, i4⟩ := st_sh R3 p2 (G2.dat.mono (fun _ _ _ z => z) fun x _ y _ => by
          rcases y with y | y
          · exact .inl (.inl y)
          · rcases i3 x y with y | y
            · exact .inr y
            · exact .inl (.inr y))
        refine fin hb2 K2 p1 p2 R4 fun x z => ?_
        rcases i3 x (i4 x z) with y | y
        · exact .inl y
        · rw [y]; exact .inr hq1
      | true =>
        obtain ⟨l2, rfl⟩ := owD_lst p2
        obtain ⟨q2, vs2, rfl, hq2, hp2, hz2, hd2, RH2⟩ := G2.new (hb rfl) l2 rfl
        have hne : q1 ≠ q2 := fun z => by rw [z, hq2] at hp1; cases hp1
        have hU2 : ¬ κ.mk' O q2 := fun z => R1.nomask q2 z hq2
        rw [hid_comm] at RH2
        have hd1'' : DatL g (fun x => (κ.hid q2).mk' O x ∨ x = q1) H2 vs1 l := DatL.mono (fun x o n z => K2 x o (fun y => n (.inl (.inr y))) z) (fun x o z y => by
          rcases z with ((z | z) | z) | z
          · exact .inl (.inl z)
          · rw [z, hq2] at y; cases y
          · exact .inl (.inr z)
          · exact .inr z) hd1
        obtain ⟨O3, R3, i3⟩ := st_ow (κ := κ.hid q2) RH2 p1 n1 (fun z => by
          rcases z with (z | z) | z
          · exact hU1 (.inl z)
          · exact hne z
          · exact hU1 (.inr z)) hp1' hz1 hd1''
        obtain ⟨O4, R4, i4⟩ := st_ow R3 p2 (R1.new0 hq2) (fun z => by
          rcases z with z | z
          · exact hU2 (.inl z)
          · rcases i3 q2 z with y | y
            · exact hU2 (.inr y)
            · exact hne y.symm) hp2 hz2 (hd2.mono (fun _ _ _ z => z) fun x _ y _ => by
          rcases y with (y | y) | y
          · exact .inl (.inl (.inl y))
          · rcases i3 x y with y | y
            · exact .inl (.inr y)
            · exact .inl (.inl (.inr y))
          · exact .inr y)
        refine fin hb2 K2 p1 p2 R4 fun x z => ?_
        rcases i4 x z with y | y
        · rcases i3 x y with y | y
          · exact .inl y
          · rw [y]; exact .inr hq1
        · rw [y]; exact .inr (new_back K1 R1.noO hq2)
    · refine ⟨κ, O, e1, R1, Run.imp kk fun d' e2 hb2 k2 w H2 R2 K2 G2 => ?_⟩
      obtain ⟨e3, e4, p1, p2⟩ := cut (k2 H2 R2 K2)
      exact absurd (owD_lst p1) hd
theorem ds_par (i j : Nat) (oa ob : Bool) {x y : Str} {px py pt : Pos} {kt k2 pt2} (hcal : X.calm = true) (hN : X.N.Nodup) (ha : DE Φ g W X ea a) (hb : DE Φ g W X eb b) (hfa : oa = true → isF a = true := by intro z; first | rfl | cases z) (hfb : ob = true → isF b = true := by intro z; first | rfl | cases z)
    (hi : X.N[i]? = some x := by rfl) (hj : X.N[j]? = some y := by rfl) (hij : i ≠ j := by decide)
    (hx : X.env.scope.names.lookup x = some .local := by rfl) (hy : X.env.scope.names.lookup y = some .local := by rfl)
    (hs1 : starEach [ea, eb] X.env = (false, eval ea X.env) :: starEach [eb] X.env := by rfl) (hs2 : starEach [eb] X.env = (false, eval eb X.env) :: starEach [] X.env := by rfl)
    (hw : swappedStores [.Tuple [.Name x px, .Name y py] kt pt] (.Tuple [ea, eb] k2 pt2) X.env = pure (some [x, y]) := by rfl)
    (hs : swapsWithSole [.Tuple [.Name x px, .Name y py] kt pt] (.Tuple [ea, eb] k2 pt2) pos.line X.env = pure false := by rfl) :
    DS Φ N g W fk io X (.Assign [.Tuple [.Name x px, .Name y py] kt pt] (.Tuple [ea, eb] k2 pt2) pos) (.par i j a b oa ob) :=
  PS.from (ps_par hcal hN hi hj hij hx hy (pa_cons ha (pa_cons hb pa_nil hs2) hs1) hw hs) fun E σ H h => par_core hfa hfb h
/-! ### y = [..] on one line -/
theorem set_core {E : Ends} (h : tS Φ N g W fk io (.set i c) E σ H) : tEv Φ g W c σ H fun x H1 => gName i x σ H1 E.nx := by
  obtain ⟨κ, O, e, R, h⟩ := h
  refine ⟨κ, O, e, R, Run.imp (RunS.ex1 h) fun d e1 _ k v H1 R1 K1 G1 => ?_⟩
  obtain ⟨e2, h2, h3⟩ := RunS.opt (k H1 R1 K1)
  obtain ⟨O', A⟩ := putO_sh R1 h2 G1.dat
  exact h3 _ _ _ A
theorem setOw_core {E : Ends} (hc : isF c = true) (h : tS Φ N g W fk io (.setOw i c) E σ H) : tEv Φ g W c σ H fun x H1 => gName i x σ H1 E.nx := by
  obtain ⟨κ, O, e, R, h⟩ := h
  refine ⟨κ, O, e, R, Run.imp (RunS.ex1 h) fun d e1 hd k v H1 R1 K1 G1 => ?_⟩
  rw [hc] at G1
  have h' : RunS g κ O W H ((opt (putO e1 i true d) e1).bind fun e2 _ => .ok .nx e2) (EndS g κ fk io E) := by
    have h3 : RunS g κ O W H ((ev Φ c e).bind fun d e1 => (opt (putO e1 i true d) e1).bind fun e2 _ => .ok .nx e2) (EndS g κ fk io E) := h
    rw [hd] at h3
    exact h3
  obtain ⟨e2, h2, h3⟩ := RunS.opt h'
  obtain ⟨O', A⟩ := putO_ow R1 h2 K1 R.nomask (fun p z => R.new0 z) G1
  exact h3 _ _ _ A
variable {it it1 : It} {tgc tgc1 : Tg} {t t1 : Tt} {el : C} {vs vs1 : List Nat} {elt tg iter tg1 iter1 : Expr} {ifs ifs1 : List Expr} {scope : Scope} {own : List (Str × Nat)} {y : Str} {py spos : Pos} {ow : Bool}
def setC (ow : Bool) (i : Nat) (c : C) : S := if ow = true then .setOw i c else .set i c
theorem setC_core {E : Ends} (hc : ow = true → isF c = true) (h : tS Φ N g W fk io (setC ow i c) E σ H) : tEv Φ g W c σ H fun x H1 => gName i x σ H1 E.nx := by
  cases ow with
  | true => exact setOw_core (hc rfl) h
  | false => exact set_core h
theorem ds_setLc (i : Nat) (ow : Bool) (hcal : X.calm = true) (hN : X.N.Nodup) (hi : DI Φ g W X tg iter it) (ok : BlkOk X.N X.env.scope scope own)
    (hg : ∀ (s : Shared) (H : Hp) (C : Addr) (cl : List (Str × Addr)) (fp : List Addr), DTg g (X.blk s H scope (compEnvC scope cl C X.env) fp) tg tgc) (ht : ∀ (s : Shared) (H : Hp) (C : Addr) (cl : List (Str × Addr)) (fp : List Addr), DTs Φ g W0 (X.blk s H scope (compEnvC scope cl C X.env) fp) ifs t)
    (he : ∀ (s : Shared) (H : Hp) (C : Addr) (cl : List (Str × Addr)) (fp : List Addr), DE Φ g W0 (X.blk s H scope (compEnvC scope cl C X.env) fp) elt el) (hy : X.N[i]? = some y := by rfl) (hyl : X.env.scope.names.lookup y = some .local := by rfl) (hk : X.env.scope.kind = .function := by rfl) (hl : (py.line == pos.line) = true := by rfl)
    (hb : (scope.names.any fun (n, k) => n == y && (k == .local || k == .cell)) = false := by rfl) (hv : own.map (·.2) = vs := by rfl) (hsl : ∀ i ∈ tgc.sl, i ∈ vs := by decide) (hs : ∀ x, foldedSetIterable iter X.env x = pure x := by intro _; rfl) :
    DS Φ N g W fk io X (.Assign [.Name y py] (.ListComp elt [⟨tg, iter, ifs, 0⟩] scope pos) spos) (setC ow i (.comp it tgc t el vs)) := by
  subst hv
  exact PS.from (ps_setLc hcal hN hy hyl (sw_true hk hyl hl hb) hi ok hg ht he hs) fun E σ H h => lc_of hsl (setC_core (fun _ => rfl) h)
theorem ds_setLc2 (i : Nat) (ow : Bool) (hcal : X.calm = true) (hN : X.N.Nodup) (hi : DI Φ g W X tg iter it) (ok : BlkOk X.N X.env.scope scope own)
    (hg : ∀ (s : Shared) (H : Hp) (C : Addr) (cl : List (Str × Addr)) (fp : List Addr), DTg g (X.blk s H scope (compEnvC scope cl C X.env) fp) tg tgc) (ht : ∀ (s : Shared) (H : Hp) (C : Addr) (cl : List (Str × Addr)) (fp : List Addr), DTs Φ g W0 (X.blk s H scope (compEnvC scope cl C X.env) fp) ifs t)
    (hi1 : ∀ (s : Shared) (H : Hp) (C : Addr) (cl : List (Str × Addr)) (fp : List Addr), DI Φ g W0 (X.blk s H scope (compEnvC scope cl C X.env) fp) tg1 iter1 it1)
    (hg1 : ∀ (s : Shared) (H : Hp) (C : Addr) (cl : List (Str × Addr)) (fp : List Addr), DTg g (X.blk s H scope (compEnvC scope cl C X.env) fp) tg1 tgc1) (ht1 : ∀ (s : Shared) (H : Hp) (C : Addr) (cl : List (Str × Addr)) (fp : List Addr), DTs Φ g W0 (X.blk s H scope (compEnvC scope cl C X.env) fp) ifs1 t1)
    (he : ∀ (s : Shared) (H : Hp) (C : Addr) (cl : List (Str × Addr)) (fp : List Addr), DE Φ g W0 (X.blk s H scope (compEnvC scope cl C X.env) fp) elt el) (hy : X.N[i]? = some y := by rfl) (hyl : X.env.scope.names.lookup y = some .local := by rfl) (hk : X.env.scope.kind = .function := by rfl) (hl : (py.line == pos.line) = true := by rfl)
    (hb : (scope.names.any fun (n, k) => n == y && (k == .local || k == .cell)) = false := by rfl) (hv : own.map (·.2) = vs := by rfl) (hv1 : ∀ i ∈ vs1, i ∈ vs := by decide) (hsl : ∀ i ∈ tgc.sl, i ∈ vs := by decide) (hsl1 : ∀ i ∈ tgc1.sl, i ∈ vs1 := by decide)
    (hs : ∀ x, foldedSetIterable iter X.env x = pure x := by intro _; rfl) (hs1 : ∀ env x, foldedSetIterable iter1 env x = pure x := by intro _ _; rfl) :
    DS Φ N g W fk io X (.Assign [.Name y py] (.ListComp elt [⟨tg, iter, ifs, 0⟩, ⟨tg1, iter1, ifs1, 0⟩] scope pos) spos) (setC ow i (.comp2 it tgc t it1 tgc1 t1 el vs vs1)) := by
  subst hv
  exact PS.from (ps_setLc2 hcal hN hy hyl (sw_true hk hyl hl hb) hi ok hv1 hg ht hi1 hg1 ht1 he hs hs1) fun E σ H h => lc2_of hsl hsl1 (setC_core (fun _ => rfl) h)
end
end Pv

namespace Pv
open PySem PySem.Spec PyProof.Rows L2

/-! ## 15. a def by its code, all defs by induction on the depth of calls -/
theorem start_len {N : List Str} {vs : List V} (h : vs.length ≤ N.length) : (L2.start N vs).length = N.length := by
  unfold L2.start
  rw [List.length_append, List.length_map, List.length_replicate]
  omega
theorem start_get {N : List Str} {vs : List V} {i : Nat} {v : V} (h : vs[i]? = some v) : (L2.start N vs)[i]? = some (some v) := by
  have hl : i < vs.length := (List.getElem?_eq_some_iff.mp h).1
  unfold L2.start
  rw [List.getElem?_append_left (by rw [List.length_map]; exact hl), List.getElem?_map, h]
  rfl
theorem entry_n {df : Df} {ds : List D} {i : Nat} {u : Ent} (h : (entry df none ds)[i]? = some u) : (∃ d, ds[i]? = some d ∧ u = .sh d) ∨ u = .un := by
  have h' : (([] : Sl) ++ ds.map Ent.sh ++ List.replicate (df.sl - ds.length - 0) Ent.un)[i]? = some u := h
  rw [List.nil_append] at h'
  by_cases hi : i < (ds.map Ent.sh).length
  · rw [List.getElem?_append_left hi, List.getElem?_map] at h'
    cases q : ds[i]? with
    | none => rw [q] at h'; cases h'
    | some d => rw [q] at h'; exact .inl ⟨d, rfl, (Option.some.inj h').symm⟩
  · rw [List.getElem?_append_right (by omega)] at h'
    exact .inr (List.eq_of_mem_replicate (List.mem_of_getElem? h'))
theorem entry_s {df : Df} {l ds : List D} {i : Nat} {u : Ent} (h : (entry df (some l) ds)[i]? = some u) : (i = 0 ∧ u = .ow l) ∨ (∃ j d, i = j + 1 ∧ ds[j]? = some d ∧ u = .sh d) ∨ u = .un := by
  have h' : (([Ent.ow l] : Sl) ++ ds.map Ent.sh ++ List.replicate (df.sl - ds.length - 1) Ent.un)[i]? = some u := h
  cases i with
  | zero => exact .inl ⟨rfl, (Option.some.inj h').symm⟩
  | succ j =>
    have h2 : (ds.map Ent.sh ++ List.replicate (df.sl - ds.length - 1) Ent.un)[j]? = some u := by simpa using h'
    by_cases hi : j < (ds.map Ent.sh).length
    · rw [List.getElem?_append_left hi, List.getElem?_map] at h2
      cases q : ds[j]? with
      | none => rw [q] at h2; cases h2
      | some d => rw [q] at h2; exact .inr (.inl ⟨j, d, rfl, q, (Option.some.inj h2).symm⟩)
    · rw [List.getElem?_append_right (by omega)] at h2
      exact .inr (.inr (List.eq_of_mem_replicate (List.mem_of_getElem? h2)))
theorem entry_len {df : Df} {t : Option (List D)} {ds : List D} (h : ds.length + (if t.isSome then 1 else 0) ≤ df.sl) : (entry df t ds).length = df.sl := by
  cases t with
  | none =>
    show (([] : Sl) ++ ds.map Ent.sh ++ List.replicate (df.sl - ds.length - 0) Ent.un).length = df.sl
    have h' : ds.length + 0 ≤ df.sl := h
    simp only [List.length_append, List.length_nil, List.length_map, List.length_replicate]
    omega
  | some l =>
    show (([Ent.ow l] : Sl) ++ ds.map Ent.sh ++ List.replicate (df.sl - ds.length - 1) Ent.un).length = df.sl
    have h' : ds.length + 1 ≤ df.sl := h
    simp only [List.length_append, List.length_cons, List.length_nil, List.length_map, List.length_replicate]
    omega
/-- at a def's entry -/
theorem rel_entry {g : Gm} {df : Df} {U M : Addr → Prop} {H : Hp} {vs : List V} {ds : List D} {t : Option (List D)} {Nn : List Str} (hN : Nn.length = df.sl) (hl : vs.length ≤ df.sl) (hU : ∀ a, U a → ∃ ws : List V, H a = some (.lst ws)) (hM : ∀ a, M a → ¬ U a) (A : Args g U M H vs ds t) :
    Rel g ⟨U, M, H⟩ M (entry df t ds) (L2.start Nn vs) H := by
  cases t with
  | none =>
    obtain ⟨nM, dl⟩ := A
    have hlen : ds.length ≤ df.sl := by rw [← dl.length]; exact hl
    have noow : ∀ (i : Nat) (l : List D), (entry df none ds)[i]? ≠ some (Ent.ow l) := fun i l h => by
      rcases entry_n h with ⟨d, _, q⟩ | q <;> cases q
    refine ⟨fun i d h => ?_, fun i l h => absurd h (noow i l), fun i j l l' p h => absurd h (noow i l), fun p h => absurd h (nM p), fun p h => absurd h (nM p), fun p h => absurd h (nM p), hU, fun p h => absurd h (nM p), fun a o h _ => h, ?_⟩
    · rcases entry_n h with ⟨d', q, z⟩ | z
      · cases z
        obtain ⟨v, a, b⟩ := dl.get q
        exact ⟨v, start_get a, b.mono (fun _ _ _ z => z) fun a _ z _ => z.elim id fun z => absurd z (nM a)⟩
      · cases z
    · rw [start_len (by rw [hN]; exact hl), hN, entry_len (by simpa using hlen)]
  | some l =>
    obtain ⟨p, vs', ws, rfl, hp, hw, hz, dl, da⟩ := A
    have hlen : ds.length + 1 ≤ df.sl := by rw [← da.length]; simpa using hl
    have ow0 : ∀ (i : Nat) (l' : List D), (entry df (some l) ds)[i]? = some (Ent.ow l') → i = 0 ∧ l' = l := fun i l' h => by
      rcases entry_s h with ⟨a, b⟩ | ⟨j, d, _, _, b⟩ | b
      · cases b; exact ⟨a, rfl⟩
      · cases b
      · cases b
    have s0 : (L2.start Nn (V.ref p :: vs'))[0]? = some (some (V.ref p)) := start_get rfl
    refine ⟨fun i d h => ?_, fun i l' h => ?_, fun i j l1 l2 q a b _ _ => by rw [(ow0 i l1 a).1, (ow0 j l2 b).1], fun q h => ?_, fun q h => hM q h, fun q h => .inl h, hU, fun q h => ⟨h, l, rfl, ?_⟩, fun a o h _ => h, ?_⟩
    · rcases entry_s h with ⟨_, z⟩ | ⟨j, d', rfl, q, z⟩ | z
      · cases z
      · cases z
        obtain ⟨v, a, b⟩ := da.get q
        exact ⟨v, start_get (by simpa using a), b⟩
      · cases z
    · obtain ⟨rfl, rfl⟩ := ow0 i l' h
      exact ⟨p, ws, s0, (hp p).mpr rfl, hw, hz, dl⟩
    · have := (hp q).mp h
      subst this
      exact ⟨0, l, rfl, s0⟩
    · have := (hp q).mp h
      subst this
      exact s0
    · rw [start_len (by rw [hN]; exact hl), hN, entry_len (by simpa using hlen)]
/-- what the body's code is to do -/
theorem body_of {g : Gm} {df : Df} {M N : Nat} {fk : Bool} {T : Nat → Option Df} {k n : Nat} {vs : List V} {H : Hp} {Q : VK} {E : XK} {Nn : List Str} (hT : T k = some df) (hN : Nn.length = df.sl) (hl : vs.length ≤ df.sl)
    (h : spF g (callN T M (N + 1) k) df.io fk n vs H Q E) : tSs (callN T M N) M g (fun c d _ H => E c d H) fk df.io df.body { nx := fun _ H' => Q .non H', rt := Q } (L2.start Nn vs) H := by
  obtain ⟨_, U, Mm, t, ds, hio, hU, hM, A, h⟩ := h
  have R := rel_entry (g := g) (df := df) hN hl hU hM A
  refine ⟨⟨U, Mm, H⟩, Mm, _, R, ?_⟩
  have e1 : callN T M (N + 1) k t ds = if (df.io == t.isSome && ds.length == df.ar) = true then endOf df.io (evSs (callN T M N) M df.body (entry df t ds)) else .bad := by
    show (match T k with
      | none => Fr.bad
      | some d => if d.io == t.isSome && ds.length == d.ar then endOf d.io (evSs (callN T M N) M d.body (entry d t ds)) else .bad) = _
    rw [hT]
  rw [e1] at h
  by_cases hc : (df.io == t.isSome && ds.length == df.ar) = true
  · rw [if_pos hc] at h
    cases r : evSs (callN T M N) M df.body (entry df t ds) with
    | bad => rw [r] at h; exact h
    | ex c p e =>
      rw [r] at h
      intro dx σ' H' O' AF P
      have h2 : match (if df.io = true then Fr.bad else Fr.ex c p) with
        | .ok d t' => ∀ v H', (∀ a o, ¬ Mm a → H a = some o → H' a = some o) → GotS g U Mm H H' v d t' fk → Q v H'
        | .ex k p => ∀ dx H', (∀ a o, ¬ Mm a → H a = some o → H' a = some o) → Pay k p dx H' → E (.ref (g.ca k)) dx H'
        | .bad => False := h
      by_cases hi : df.io = true
      · rw [if_pos hi] at h2; exact h2.elim
      · rw [if_neg hi] at h2
        exact h2 dx H' (fun a o n z => AF.rel.keep a o z n) P
    | ok f e =>
      rw [r] at h
      intro σ' H' O' AF
      have kp : ∀ a o, ¬ Mm a → H a = some o → H' a = some o := fun a o n z => AF.rel.keep a o z n
      have tn := tin_of (io := df.io) AF.rel
      cases f with
      | bk => exact h.elim
      | ct => exact h.elim
      | nx =>
        have h2 : match (if df.io = true then (match ownAt e 0 with
          | some l => Fr.ok .non (some l)
          | none => .bad) else .ok .non none) with
          | .ok d t' => ∀ v H', (∀ a o, ¬ Mm a → H a = some o → H' a = some o) → GotS g U Mm H H' v d t' fk → Q v H'
          | .ex k p => ∀ dx H', (∀ a o, ¬ Mm a → H a = some o → H' a = some o) → Pay k p dx H' → E (.ref (g.ca k)) dx H'
          | .bad => False := h
        have gs : ∀ t', TinOut g U Mm H' t' → GotS g U Mm H H' .non .non t' fk := fun t' z => ⟨.non, z, fun _ l q => by cases q⟩
        by_cases hi : df.io = true
        · rw [if_pos hi] at h2 tn
          cases q : ownAt e 0 with
          | none => rw [q] at h2; exact h2.elim
          | some l =>
            rw [q] at h2 tn
            exact h2 .non H' kp (gs _ tn)
        · rw [if_neg hi] at h2 tn
          exact h2 .non H' kp (gs _ tn)
      | rt d =>
        have h2 : match (if df.io = true then (match ownAt e 0 with
          | some l => Fr.ok d (some l)
          | none => .bad) else .ok d none) with
          | .ok d t' => ∀ v H', (∀ a o, ¬ Mm a → H a = some o → H' a = some o) → GotS g U Mm H H' v d t' fk → Q v H'
          | .ex k p => ∀ dx H', (∀ a o, ¬ Mm a → H a = some o → H' a = some o) → Pay k p dx H' → E (.ref (g.ca k)) dx H'
          | .bad => False := h
        intro v G _
        by_cases hi : df.io = true
        · rw [if_pos hi] at h2 G
          cases q : ownAt e 0 with
          | none => rw [q] at h2; exact h2.elim
          | some l =>
            rw [q] at h2 G
            exact h2 v H' kp G
        · rw [if_neg hi] at h2 G
          exact h2 v H' kp G
  · rw [if_neg hc] at h; exact h.elim
/-- a def: its text, its names, its code -/
structure DefOk (T : Nat → Option Df) (fr : Nat → Bool) (M : Nat) (g : Gm) (P : Program) (w : World) (mg : Str → Option Value) (base : Heap) (k : Nat) (df : Df) : Prop where
  ex : ∃ (x : Str) (st : Stmt) (fd : FuncData) (N ps : List Str), Fun g.K x x st (g.fa k) fd ∧ FnScope N ps (defScope st) ∧ N.length = df.sl ∧ ps.length = df.ar + (if df.io then 1 else 0) ∧ ps.length ≤ df.sl ∧ Binds g.K fd ps [] ∧
    ∀ (Φ : Orc) (n : Nat) (cdv : Value) (A : Around) (outer : List Env) (s : Shared) (H : Hp) (E : XK), Room n (A.deeper (envOfC x (defScope st) s.heap.objs.size (g.fa k) cdv)) → HeldX Φ fr g (cxOf (L2.CX P w) P w g.K mg base N x (defScope st) (g.fa k) cdv A outer s H E) →
      DSs Φ M g (fun c d _ H => E c d H) (fr k) df.io (cxOf (L2.CX P w) P w g.K mg base N x (defScope st) (g.fa k) cdv A outer s H E) (defBody st) df.body
theorem callN_shape {T : Nat → Option Df} {M : Nat} : ∀ {n k : Nat} {t : Option (List D)} {ds : List D}, callN T M n k t ds ≠ .bad → ∃ df, T k = some df ∧ df.io = t.isSome ∧ ds.length = df.ar
  | 0, _, _, _, h => absurd rfl h
  | n + 1, k, t, ds, h => by
    have h' : (match T k with
      | none => Fr.bad
      | some d => if d.io == t.isSome && ds.length == d.ar then endOf d.io (evSs (callN T M n) M d.body (entry d t ds)) else .bad) ≠ .bad := h
    cases q : T k with
    | none => rw [q] at h'; exact absurd rfl h'
    | some df =>
      rw [q] at h'
      by_cases hc : (df.io == t.isSome && ds.length == df.ar) = true
      · rw [Bool.and_eq_true] at hc
        exact ⟨df, rfl, eq_of_beq hc.1, eq_of_beq hc.2⟩
      · exact absurd (if_neg hc) h'
def arOf (T : Nat → Option Df) (k : Nat) : Option (Bool × Nat) := (T k).map fun df => (df.io, df.ar + if df.io then 1 else 0)
section
variable {T : Nat → Option Df} {fr : Nat → Bool} {M : Nat} {g : Gm} {P : Program} {w : World} {mg : Str → Option Value} {base : Heap}
def AtN (T : Nat → Option Df) (fr : Nat → Bool) (M : Nat) (g : Gm) (P : Program) (w : World) (mg : Str → Option Value) (base : Heap) (n k : Nat) (df : Df) : Prop :=
  ∃ fd ps, FnOk P w g.K mg base (L2.CX P w) n (g.fa k) fd ps (spF g (callN T M n k) df.io (fr k) ps.length) ∧ PySem.W.keepIn g.K (.ref (g.fa k)) = true ∧ Binds g.K fd ps [] ∧ ps.length = df.ar + (if df.io then 1 else 0)
theorem held_of (har : ∀ k, g.ar k = arOf T k) {n : Nat} (h : ∀ k df, T k = some df → AtN T fr M g P w mg base n k df) {A : Around} (hr : Room n A) : Held (callN T M n) fr g P w g.K mg base A where
  ok := fun k io m e => by
    rw [har] at e
    obtain ⟨df, hT, e2⟩ := Option.map_eq_some_iff.mp e
    obtain ⟨fd, ps, F, kp, b, hl⟩ := h k df hT
    cases e2
    rw [hl] at F
    exact ⟨n, fd, ps, hr, F, kp, b⟩
  shape := fun k t ds nb => by
    obtain ⟨df, hT, h1, h2⟩ := callN_shape nb
    rw [har]
    unfold arOf
    rw [hT, ← h1, h2]
    rfl
theorem all_ok (har : ∀ k, g.ar k = arOf T k) (h : ∀ k df, T k = some df → DefOk T fr M g P w mg base k df) : ∀ n k df, T k = some df → AtN T fr M g P w mg base n k df
  | 0, k, df, hT => by
    obtain ⟨x, st, fd, N, ps, F, S, hN, hps, hps2, b, _⟩ := (h k df hT).ex
    have no : ∀ {vs H Q E}, ¬ spF g (callN T M 0 k) df.io (fr k) ps.length vs H Q E := fun ⟨_, _, _, _, _, _, _, _, _, z⟩ => z
    exact ⟨fd, ps, ⟨fun vs H Q E z => absurd z no, fun A outer s H args us vs Q E _ _ _ _ z => absurd z no⟩, F.kp, b, hps⟩
  | n + 1, k, df, hT => by
    obtain ⟨x, st, fd, N, ps, F, S, hN, hps, hps2, b, hb⟩ := (h k df hT).ex
    refine ⟨fd, ps, F.okX S (fun vs H Q E z => z.1) (fun cdv A outer s H vs Q E hr hsp => ?_), F.kp, b, hps⟩
    exact ⟨_, hb (callN T M n) n cdv A outer s H E hr (held_of har (all_ok har h n) hr), body_of hT hN (by rw [hsp.1]; exact hps2) hsp⟩
end
end Pv

namespace Pv
open PySem PySem.Spec PyProof.Rows L2
section
variable {Φ : Orc} {g : Gm} {W : WX} {X : Cx} {κ : Kp} {O : Addr → Prop} {σ : L2.St} {H : Hp} {e : Sl} {a : Ag} {ea : Expr} {pos p p2 q : Pos}
/-! ## 16. len(set(t)), constants of the module, the law's head -/
theorem nodup_len : ∀ {l r : List Int}, l.Nodup → r.Nodup → (∀ x, x ∈ l ↔ x ∈ r) → l.length = r.length := fun hl hr h => ((List.perm_ext_iff_of_nodup hl hr).mpr h).length_eq
theorem eraseDups_nodup : ∀ (n : Nat) (l : List Int), l.length ≤ n → l.eraseDups.Nodup ∧ ∀ x, x ∈ l.eraseDups ↔ x ∈ l
  | _, [], _ => by simp
  | 0, _ :: _, h => by simp at h
  | n + 1, a :: l, h => by
    have hl : (l.filter fun b => !b == a).length ≤ n := Nat.le_trans (List.length_filter_le _ _) (by simpa using h)
    obtain ⟨h1, h2⟩ := eraseDups_nodup n _ hl
    rw [List.eraseDups_cons]
    refine ⟨List.nodup_cons.mpr ⟨fun z => ?_, h1⟩, fun x => ?_⟩
    · have := (h2 a).mp z
      rw [List.mem_filter] at this
      simp at this
    · rw [List.mem_cons, h2, List.mem_filter, List.mem_cons]
      by_cases hx : x = a
      · simp [hx]
      · simp [hx]
theorem eraseDups_len : ∀ (n : Nat) (l : List Int), l.length ≤ n → l.eraseDups.length ≤ l.length
  | _, [], _ => by simp
  | 0, _ :: _, h => by simp at h
  | n + 1, a :: l, h => by
    have h0 := List.length_filter_le (fun b => !b == a) l
    have hl : (l.filter fun b => !b == a).length ≤ n := Nat.le_trans h0 (by simpa using h)
    have h1 := eraseDups_len n _ hl
    rw [List.eraseDups_cons, List.length_cons, List.length_cons]
    omega
theorem de_lenset {x x2 : Str} (hcal : X.calm = true) (ha : DG Φ g W X ea a) (hx : x = "len" := by rfl) (hx2 : x2 = "set" := by rfl) (hm : X.mg "len" = none := by rfl) (hm2 : X.mg "set" = none := by rfl) (hg : Gl X "len" := by rfl) (hg2 : Gl X "set" := by rfl)
    (na : starEach [ea] X.env = (false, eval ea X.env) :: starEach [] X.env := by rfl) : DE Φ g W X (.Call (.Name x p) [.Call (.Name x2 p2) [ea] [] q] [] pos) (.op1 .lenset a) := by
  subst hx hx2
  refine ⟨fun pins s σ H Q I ⟨κ, O, e, R, h⟩ => ?_⟩
  refine Call_ (ld_blt I hg hm boot_len ?_)
  refine PyProof.Rows.callWith_builtin1 (PyProof.Rows.args_cons ?_ rfl) rfl rfl
  refine Call_ (ld_blt I hg2 hm2 boot_set ?_)
  have hh : tG Φ g W a σ H fun x H1 => ∃ (l : Addr) (ns : List Int), x = .ref l ∧ SqT X.K H1 l (ns.map V.int) ∧ ns.length ≤ 4000 ∧ Q (.int (ns.eraseDups.length : Nat)) H1 := by
    refine go_1 (f := p1 .lenset) R h fun x H1 e1 d z R1 K1 hx hz k => ?_
    cases d with
    | tup l =>
      obtain ⟨p, vs, rfl, hp, hzl, dx⟩ := hx.tup
      cases hi : intsD l with
      | none =>
        have hz' : ((intsD l).bind fun is => if is.length ≤ 4000 then some (D.int is.eraseDups.length) else none) = some z := hz
        rw [hi] at hz'; cases hz'
      | some ns =>
        have hz' : ((intsD l).bind fun is => if is.length ≤ 4000 then some (D.int is.eraseDups.length) else none) = some z := hz
        rw [hi] at hz'
        obtain ⟨hc, rfl⟩ := ite_some (show (if ns.length ≤ 4000 then some (D.int ns.eraseDups.length) else none) = some z from hz')
        have e2 := intsD_ok hi
        subst e2
        have e3 := dx.ints
        subst e3
        exact ⟨p, ns, rfl, SqT.of hp, hc, k _ H1 R1 K1 (GotX.flag (.int _) (fun l q => by cases q) _)⟩
    | _ => cases hz
  refine PyProof.Rows.callWith_type1 (PyProof.Rows.args_cons (thn (PE.run ha pins s σ H _ I hh) fun v s1 ⟨x, H1, I1, r1, q1⟩ => PyProof.Rows.args_nil ?_) na) na rfl
  obtain ⟨l, ns, rfl, hq, hl, q1⟩ := q1
  cases r1
  obtain ⟨its, rv, pt, hz⟩ := I1.tuple hq
  have hi : IntsAre its.toArray.toList ns := ints_of_vals rv
  refine call_set_tupI ns (I1.ok.hd hcal) (show s1.heap.IsTuple l its.toArray from pt) hi (by unfold scanBound; omega) fun h' tk c R2 hcn k => ?_
  refine PyProof.Rows.args_nil ?_
  obtain ⟨o, es, ep, t, ho, hex, hdt, gg, nd, hm3, hb, hf, hn, hr, hl2⟩ := R2
  have I2 : Inv X pins σ H1 { s1 with heap := h', toks := tk } := I1.kept k
  have hlen : es.size = ns.eraseDups.length := by
    obtain ⟨h1, h2⟩ := eraseDups_nodup ns.length ns (Nat.le_refl _)
    have h3 : (es.toList.map keyOf).length = ns.eraseDups.length := nodup_len nd h1 fun x => by
      rw [h2, ← hm3 x, decide_eq_true_eq]
    rw [List.length_map, Array.length_toList] at h3
    exact h3
  refine call_len_set ho hex hdt hf ?_ ⟨.int (ns.eraseDups.length : Nat), H1, I2.tok _, ⟨_, by rw [hlen]⟩, q1⟩
  rw [hlen]
  have h4 := eraseDups_len ns.length ns (Nat.le_refl _)
  omega
theorem de_gintE {x : Str} {i : Int} (hm : ∃ t, X.mg x = some (.int i t)) (hg : Gl X x := by rfl) (hd : (x == ("__debug__" : Str)) = false := by decide) : DE Φ g W X (.Name x pos) (.con (.int i)) := by
  obtain ⟨t, hm⟩ := hm
  exact de_gint hm hg hd
theorem de_gstrE {x : Str} {i : Str} (hm : ∃ t, X.mg x = some (.str i t)) (hx : i.length ≤ sizeLine := by decide) (hg : Gl X x := by rfl) (hd : (x == ("__debug__" : Str)) = false := by decide) : DE Φ g W X (.Name x pos) (.con (.str i)) := by
  obtain ⟨t, hm⟩ := hm
  exact de_gstr hm hx hg hd
end
theorem hu65 {n : Nat} {A : Around} (hr : Room n A) : A.units + 65 < cLine := by have := hr.un; omega
theorem bt_len : bootBuiltins "len" = some (.builtin "len") := by first | rfl | decide +kernel
theorem bt_all : bootBuiltins "all" = some (.builtin "all") := by first | rfl | decide +kernel
theorem bt_any : bootBuiltins "any" = some (.builtin "any") := by first | rfl | decide +kernel
theorem bt_sum : bootBuiltins "sum" = some (.builtin "sum") := by first | rfl | decide +kernel
theorem bt_max : bootBuiltins "max" = some (.builtin "max") := by first | rfl | decide +kernel
theorem bt_min : bootBuiltins "min" = some (.builtin "min") := by first | rfl | decide +kernel
theorem bt_sorted : bootBuiltins "sorted" = some (.builtin "sorted") := by first | rfl | decide +kernel
theorem bt_abs : bootBuiltins "abs" = some (.builtin "abs") := by first | rfl | decide +kernel
theorem bt_int : bootBuiltins "int" = some (.type "int") := by first | rfl | decide +kernel
theorem bt_tuple : bootBuiltins "tuple" = some (.type "tuple") := by first | rfl | decide +kernel
theorem bt_list : bootBuiltins "list" = some (.type "list") := by first | rfl | decide +kernel
def spLaw (K : PySem.W.Frag) : Sp := fun vs H Q _ => ∃ (a : Addr) (ns : List Int), vs = [.ref a] ∧ Only H ∧ SqL K H a (ns.map V.int) ∧ ns.length ≤ 63 ∧ ∀ H', Q (.bl true) H'
theorem law_sp {g : Gm} {φ : Option (List D) → List D → Fr} {fl : Bool} (h : ∀ ns : List Int, ns.length ≤ 63 → φ none [.scr ns] = .ok (.bl true) none) : ∀ vs H Q E, spLaw g.K vs H Q E → spF g φ false fl 1 vs H Q E := by
  intro vs H Q E ⟨a, ns, e, ho, hs, hl, q⟩
  subst e
  have hd : Dat g (fun _ => False) H (.ref a) (.scr ns) := by
    rcases hs with (hs | ⟨o, hs⟩) | hs
    · rcases ho a with z | ⟨o, xs, z⟩
      · rw [hs] at z; cases z
      · rw [hs] at z; cases z
    · exact .scrF hs id
    · exact .scrK hs
  refine ⟨rfl, fun _ => False, fun _ => False, none, [.scr ns], rfl, fun a z => z.elim, fun a z => z.elim, ⟨fun a z => z, .cons hd .nil⟩, ?_⟩
  rw [h ns hl]
  intro v H' _ G
  have := G.dat
  cases this
  exact q H'
end Pv

namespace Pv
open PySem PySem.Spec PyProof.Rows L2

/-! ## 17. a slot that the code does not name is not looked at -/
def mapS {α : Type} (i : Nat) (x : Ent) : R α → R α
  | .ok a e => .ok a (e.set i x)
  | .ex k p e => .ex k p (e.set i x)
  | .bad => .bad
mutual
def ntC (i : Nat) : C → Bool
  | .var j => j != i
  | .con _ => true
  | .tup as => ntAs i as
  | .lst as => ntAs i as
  | .and a b => ntC i a && ntC i b
  | .or a b => ntC i a && ntC i b
  | .ife t a b => ntC i t && (ntC i a && ntC i b)
  | .op1 _ a => ntG i a
  | .op2 _ a b => ntG i a && ntG i b
  | .op22 _ a b => ntG i a && ntG i b
  | .chain _ _ a b c => ntC i a && (ntC i b && ntC i c)
  | .slice a lo hi => ntG i a && (ntP i lo && ntP i hi)
  | .listR a b => ntC i a && ntC i b
  | .tupleR a b => ntC i a && ntC i b
  | .call _ _ as => ntAs i as
  | .callT _ _ j as => j != i && ntAs i as
  | .callV j as => j != i && ntAs i as
  | .comp it g t el vs => ntI i it && (!Tg.elem i g && (ntT i t && (ntC i el && !vs.contains i)))
  | .comp2 it g t it1 g1 t1 el vs vs1 => ntI i it && (!Tg.elem i g && (ntT i t && (ntI i it1 && (!Tg.elem i g1 && (ntT i t1 && (ntC i el && (!vs.contains i && !vs1.contains i)))))))
  | .pop j => j != i
  | .popAt j a => j != i && ntC i a
def ntG (i : Nat) : Ag → Bool
  | .c c => ntC i c
  | .b j => j != i
def ntAs (i : Nat) : As → Bool
  | .nil => true
  | .cons a r => ntG i a && ntAs i r
def ntP (i : Nat) : Pt → Bool
  | .no => true
  | .c c => ntC i c
def ntT (i : Nat) : Tt → Bool
  | .yes => true
  | .c c => ntC i c
def ntI (i : Nat) : It → Bool
  | .c a => ntG i a
  | .rng1 a => ntC i a
  | .rng2 a b => ntC i a && ntC i b
  | .enum a => ntG i a
  | .zip a b => ntG i a && ntG i b
end
section
variable {α β : Type} {i : Nat} {x : Ent}
theorem bne_ne {a b : Nat} (h : (a != b) = true) : a ≠ b := by
  intro z
  subst z
  simp at h
theorem beqN' {a b : Nat} (h : (a == b) = false) : (a != b) = true := by
  show (!(a == b)) = true
  rw [h]; rfl
theorem beqN {a b : Nat} (h : (a == b) = false) : (b != a) = true := by
  show (!(b == a)) = true
  rw [BEq.comm, h]; rfl
theorem get_set {e : Sl} {j : Nat} (h : (j != i) = true) : (e.set i x)[j]? = e[j]? := List.getElem?_set_ne fun z => bne_ne h z.symm
theorem set_set' {e : Sl} {j : Nat} {y : Ent} (h : (j != i) = true) : (e.set i x).set j y = (e.set j y).set i x := List.set_comm _ _ fun z => bne_ne h z.symm
theorem bindF {r : R α} {f : α → Sl → R β} (h : ∀ a e, r = .ok a e → f a (e.set i x) = mapS i x (f a e)) : (mapS i x r).bind f = mapS i x (r.bind f) := by
  cases r with
  | ok a e => exact h a e rfl
  | ex _ _ _ => rfl
  | bad => rfl
theorem bindF' {r r' : R α} {f f' : α → Sl → R β} (hr : r' = mapS i x r) (h : ∀ a e, r = .ok a e → f' a (e.set i x) = mapS i x (f a e)) : r'.bind f' = mapS i x (r.bind f) := by
  subst hr
  cases r with
  | ok a e => exact h a e rfl
  | ex _ _ _ => rfl
  | bad => rfl
theorem optF {o : Option α} {e : Sl} : opt o (e.set i x) = mapS i x (opt o e) := by cases o <;> rfl
theorem optF' {o o' : Option α} {e : Sl} (h : o' = o) : opt o' (e.set i x) = mapS i x (opt o e) := by subst h; exact optF
theorem calmF {r : R α} : (mapS i x r).calm = mapS i x r.calm := by cases r <;> rfl
/-- an optional state, then the rest -/
theorem optS {o o' : Option Sl} {e : Sl} {f f' : Sl → Sl → R β} (h : o' = o.map (·.set i x)) (hf : ∀ e2, o = some e2 → f' (e2.set i x) (e.set i x) = mapS i x (f e2 e)) : (opt o' (e.set i x)).bind f' = mapS i x ((opt o e).bind f) := by
  subst h
  cases o with
  | none => rfl
  | some e2 => exact hf e2 rfl
theorem iteF2 {c : Prop} [Decidable c] {r r' s s' : R α} (h1 : r' = mapS i x r) (h2 : s' = mapS i x s) : (if c then r' else s') = mapS i x (if c then r else s) := by
  by_cases hc : c
  · rw [if_pos hc, if_pos hc]; exact h1
  · rw [if_neg hc, if_neg hc]; exact h2
def okV (i : Nat) (v : Vr) : Prop := v ≠ .inr i
theorem vgetF {e : Sl} {v : Vr} (h : okV i v) : vget (e.set i x) v = vget e v := by
  cases v with
  | inl d => rfl
  | inr j =>
    have hj : (j != i) = true := by simpa using fun z => h (by rw [z])
    show (match (e.set i x)[j]? with
      | some (.ow l) => some (D.lst l)
      | some (.sh d) => some d
      | _ => none) = _
    rw [get_set hj]
    rfl
theorem isOwF {e : Sl} {v : Vr} (h : okV i v) : isOw (e.set i x) v = isOw e v := by
  cases v with
  | inl d => rfl
  | inr j =>
    have hj : (j != i) = true := by simpa using fun z => h (by rw [z])
    show (match (e.set i x)[j]? with
      | some (.ow _) => true
      | _ => false) = _
    rw [get_set hj]
    rfl
theorem vgetsF {e : Sl} : ∀ {vs : List Vr}, (∀ v ∈ vs, okV i v) → vgets (e.set i x) vs = vgets e vs
  | [], _ => rfl
  | v :: vs, h => by
    show (match vget (e.set i x) v, vgets (e.set i x) vs with
      | some d, some ds => some (d :: ds)
      | _, _ => none) = _
    rw [vgetF (h v List.mem_cons_self), vgetsF fun v hv => h v (List.mem_cons_of_mem _ hv)]
    rfl
theorem anyF {e : Sl} : ∀ {vs : List Vr}, (∀ v ∈ vs, okV i v) → vs.any (isOw (e.set i x)) = vs.any (isOw e)
  | [], _ => rfl
  | v :: vs, h => by
    rw [List.any_cons, List.any_cons, isOwF (h v List.mem_cons_self), anyF fun v hv => h v (List.mem_cons_of_mem _ hv)]
theorem wipeF {e : Sl} : ∀ {vs : List Nat}, vs.contains i = false → wipeE (e.set i x) vs = (wipeE e vs).set i x
  | [], _ => rfl
  | v :: vs, h => by
    rw [List.contains_cons, Bool.or_eq_false_iff] at h
    show (wipeE (e.set i x) vs).set v .un = ((wipeE e vs).set v .un).set i x
    rw [wipeF h.2]
    exact set_set' (beqN h.1)
theorem backF {e0 e : Sl} : ∀ {vs : List Nat}, vs.contains i = false → backE (e0.set i x) (e.set i x) vs = (backE e0 e vs).set i x
  | [], _ => rfl
  | v :: vs, h => by
    rw [List.contains_cons, Bool.or_eq_false_iff] at h
    have hv : (v != i) = true := beqN h.1
    show (backE (e0.set i x) (e.set i x) vs).set v ((e0.set i x).getD v .un) = ((backE e0 e vs).set v (e0.getD v .un)).set i x
    rw [backF h.2, List.getD_eq_getElem?_getD, get_set hv, List.getD_eq_getElem?_getD]
    exact set_set' hv
theorem noOwF {e : Sl} : ∀ {vs : List Nat}, vs.contains i = false → noOw (e.set i x) vs = noOw e vs
  | [], _ => rfl
  | v :: vs, h => by
    rw [List.contains_cons, Bool.or_eq_false_iff] at h
    have hv : (v != i) = true := beqN h.1
    show ((match (e.set i x)[v]? with
      | some (.ow _) => false
      | some _ => true
      | none => false) && noOw (e.set i x) vs) = _
    rw [get_set hv, noOwF h.2]
    rfl
theorem put1F {e : Sl} {j : Nat} {d : D} (h : (j != i) = true) : put1 (e.set i x) j d = (put1 e j d).map (·.set i x) := by
  show (match (e.set i x)[j]? with
    | some (.ow _) => none
    | some _ => some ((e.set i x).set j (.sh d))
    | none => none) = _
  unfold put1
  rw [get_set h, set_set' h]
  cases e[j]? with
  | none => rfl
  | some u => cases u <;> rfl
theorem putsF : ∀ {l : List Nat} {ds : List D} {e : Sl}, l.contains i = false → puts (e.set i x) l ds = (puts e l ds).map (·.set i x)
  | [], [], _, _ => rfl
  | j :: l, d :: ds, e, h => by
    rw [List.contains_cons, Bool.or_eq_false_iff] at h
    have hv : (j != i) = true := beqN h.1
    show ((put1 (e.set i x) j d).bind fun e' => puts e' l ds) = ((put1 e j d).bind fun e' => puts e' l ds).map (·.set i x)
    rw [put1F hv]
    cases put1 e j d with
    | none => rfl
    | some e1 => exact putsF h.2
  | [], _ :: _, _, _ => rfl
  | _ :: _, [], _, _ => rfl
theorem putF {g : Tg} {d : D} {e : Sl} (h : Tg.elem i g = false) : put (e.set i x) g d = (put e g d).map (·.set i x) := by
  cases g with
  | n j => exact put1F (beqN' (show (j == i) = false from h))
  | ts l =>
    cases d with
    | tup ds => exact putsF h
    | _ => rfl
theorem compF {as : D → Sl → Option Sl} {tt : Sl → R Bool} {el : Sl → List D → R (List D)} {vs : List Nat} (hv : vs.contains i = false) (ha : ∀ d e, as d (e.set i x) = (as d e).map (·.set i x)) (ht : ∀ e, tt (e.set i x) = mapS i x (tt e)) (he : ∀ e acc, el (e.set i x) acc = mapS i x (el e acc)) :
    ∀ (l : List D) (acc : List D) (e : Sl), compGo as tt el vs l acc (e.set i x) = mapS i x (compGo as tt el vs l acc e)
  | [], _, _ => rfl
  | d :: l, acc, e => by
    refine optS (o := as d (wipeE e vs)) (e := e) (by rw [wipeF hv, ha]) fun e1 _ => ?_
    refine bindF' (by rw [ht, calmF]) fun b e2 _ => ?_
    refine iteF2 (bindF' (by rw [he, calmF]) fun acc' e3 _ => ?_) ?_
    · rw [noOwF hv]
      exact iteF2 (compF hv ha ht he l acc' e3) rfl
    · rw [noOwF hv]
      exact iteF2 (compF hv ha ht he l acc e2) rfl
theorem oneMoreF {r r' : R D} {acc : List D} (h : r' = mapS i x r) : oneMore r' acc = mapS i x (oneMore r acc) := bindF' h fun d e _ => iteF2 rfl rfl
theorem frOfF {fl : Bool} {e : Sl} {xs : List Vr} {f : Fr} (h : ∀ v ∈ xs, okV i v) : frOf fl (e.set i x) xs f = mapS i x (frOf fl e xs f) := by
  cases f with
  | ok d t =>
    cases t with
    | none =>
      show (if (xs.any (isOw (e.set i x)) && !freeR fl d) = true then R.bad else R.ok d (e.set i x)) = _
      rw [anyF h]
      exact iteF2 rfl rfl
    | some l => rfl
  | ex k p => rfl
  | bad => rfl
theorem and2 {a b : Bool} (h : (a && b) = true) : a = true ∧ b = true := by simpa using h
theorem ntB {b : Bool} (h : (!b) = true) : b = false := by simpa using h
end
section
variable {Φ : Orc} {i : Nat} {x : Ent}
mutual
theorem fC : ∀ (c : C), ntC i c = true → ∀ e : Sl, ev Φ c (e.set i x) = mapS i x (ev Φ c e)
  | .var j, h, e => by
    show (match (e.set i x)[j]? with
      | some (.sh d) => R.ok d (e.set i x)
      | _ => .bad) = mapS i x (match e[j]? with
      | some (.sh d) => R.ok d e
      | _ => .bad)
    rw [get_set h]
    cases e[j]? with
    | none => rfl
    | some u => cases u <;> rfl
  | .con d, _, e => rfl
  | .tup as, h, e => bindF' (fAs as h e) fun xs e1 q => by
    have hv := oAs as h e q
    exact bindF' (optF' (vgetsF hv)) fun ds e1' _ => by
      show (if (xs.any (isOw (e1'.set i x)) || decide (LIM < ds.length)) = true then R.bad else _) = _
      rw [anyF hv]
      exact iteF2 rfl rfl
  | .lst as, h, e => bindF' (fAs as h e) fun xs e1 q => by
    have hv := oAs as h e q
    exact bindF' (optF' (vgetsF hv)) fun ds e1' _ => by
      show (if (xs.any (isOw (e1'.set i x)) || decide (LIM < ds.length)) = true then R.bad else _) = _
      rw [anyF hv]
      exact iteF2 rfl rfl
  | .and a b, h, e => bindF' (fC a (and2 h).1 e) fun d e1 _ => bindF' optF fun k e2 _ => iteF2 (fC b (and2 h).2 e2) rfl
  | .or a b, h, e => bindF' (fC a (and2 h).1 e) fun d e1 _ => bindF' optF fun k e2 _ => iteF2 rfl (fC b (and2 h).2 e2)
  | .ife t a b, h, e => bindF' (fC t (and2 h).1 e) fun d e1 _ => bindF' optF fun k e2 _ => iteF2 (fC a (and2 (and2 h).2).1 e2) (fC b (and2 (and2 h).2).2 e2)
  | .op1 p a, h, e => bindF' (fG a h e) fun y e1 q => bindF' (optF' (vgetF (oG a h e q))) fun d e2 _ => optF
  | .op2 p a b, h, e => bindF' (fG a (and2 h).1 e) fun y e1 q => bindF' (fG b (and2 h).2 e1) fun z e2 q2 => bindF' (optF' (vgetF (oG a (and2 h).1 e q))) fun d e3 q3 => bindF' (optF' (vgetF (oG b (and2 h).2 e1 q2))) fun d' e4 _ => optF
  | .op22 p a b, h, e => bindF' (fG a (and2 h).1 e) fun y e1 q => bindF' (fG b (and2 h).2 e1) fun z e2 q2 => bindF' (optF' (vgetF (oG a (and2 h).1 e q))) fun d e3 q3 => bindF' (optF' (vgetF (oG b (and2 h).2 e1 q2))) fun d' e4 _ => optF
  | .chain p q a b c, h, e => bindF' (fC a (and2 h).1 e) fun y e1 _ => bindF' (fC b (and2 (and2 h).2).1 e1) fun z e2 _ => bindF' optF fun w e3 _ => bindF' optF fun k e4 _ => iteF2 (bindF' (fC c (and2 (and2 h).2).2 e4) fun v e5 _ => optF) rfl
  | .slice a lo hi, h, e => bindF' (fG a (and2 h).1 e) fun y e1 q => bindF' (fP lo (and2 (and2 h).2).1 e1) fun l e2 _ => bindF' (fP hi (and2 (and2 h).2).2 e2) fun r e3 _ => bindF' (optF' (vgetF (oG a (and2 h).1 e q))) fun d e4 _ => optF
  | .listR a b, h, e => bindF' (fC a (and2 h).1 e) fun y e1 _ => bindF' (fC b (and2 h).2 e1) fun z e2 _ => by
    cases y with
    | int m => cases z with
      | int n => exact iteF2 rfl rfl
      | _ => rfl
    | _ => rfl
  | .tupleR a b, h, e => bindF' (fC a (and2 h).1 e) fun y e1 _ => bindF' (fC b (and2 h).2 e1) fun z e2 _ => by
    cases y with
    | int m => cases z with
      | int n => exact iteF2 rfl rfl
      | _ => rfl
    | _ => rfl
  | .call fl f as, h, e => bindF' (fAs as h e) fun xs e1 q => bindF' (optF' (vgetsF (oAs as h e q))) fun ds e2 _ => frOfF (oAs as h e q)
  | .callT fl f j as, h, e => by
    show (match (e.set i x)[j]? with
      | some (.ow _) => (evAs Φ as (e.set i x)).bind _
      | _ => R.bad) = mapS i x (match e[j]? with
      | some (.ow _) => (evAs Φ as e).bind _
      | _ => R.bad)
    rw [get_set (and2 h).1]
    cases e[j]? with
    | none => rfl
    | some u =>
      cases u with
      | un => rfl
      | sh d => rfl
      | ow l =>
        refine bindF' (fAs as (and2 h).2 e) fun xs e1 q => bindF' (optF' (vgetsF (oAs as (and2 h).2 e q))) fun ds e2 _ => ?_
        rw [anyF (oAs as (and2 h).2 e q)]
        refine iteF2 rfl ?_
        rw [get_set (and2 h).1]
        cases e2[j]? with
        | none => rfl
        | some u =>
          cases u with
          | un => rfl
          | sh d => rfl
          | ow t =>
            show (match Φ f (some t) ds with
              | .ok d (some t') => R.ok d ((e2.set i x).set j (.ow t'))
              | _ => .bad) = mapS i x (match Φ f (some t) ds with
              | .ok d (some t') => R.ok d (e2.set j (.ow t'))
              | _ => .bad)
            cases Φ f (some t) ds with
            | ok d t' =>
              cases t' with
              | none => rfl
              | some t' => exact congrArg (R.ok d) (set_set' (and2 h).1)
            | ex _ _ => rfl
            | bad => rfl
  | .callV j as, h, e => by
    show (match (e.set i x)[j]? with
      | some (.sh (.fn f)) => (evAs Φ as (e.set i x)).calm.bind fun xs e1 => (opt (vgets e1 xs) e1).bind fun ds e1 => frOf false e1 xs (Φ f none ds)
      | _ => R.bad) = mapS i x (match e[j]? with
      | some (.sh (.fn f)) => (evAs Φ as e).calm.bind fun xs e1 => (opt (vgets e1 xs) e1).bind fun ds e1 => frOf false e1 xs (Φ f none ds)
      | _ => R.bad)
    rw [get_set (and2 h).1]
    cases e[j]? with
    | none => rfl
    | some u =>
      cases u with
      | un => rfl
      | ow l => rfl
      | sh d =>
        cases d with
        | fn f =>
          refine bindF' (by rw [fAs as (and2 h).2 e, calmF]) fun xs e1 q => ?_
          have q' : evAs Φ as e = .ok xs e1 := by
            cases z : evAs Φ as e with
            | ok a e2 => rw [z] at q; exact q
            | ex _ _ _ => rw [z] at q; cases q
            | bad => rw [z] at q; cases q
          exact bindF' (optF' (vgetsF (oAs as (and2 h).2 e q'))) fun ds e2 _ => frOfF (oAs as (and2 h).2 e q')
        | _ => rfl
  | .comp it g t el vs, h, e => bindF' (fI it (and2 h).1 e) fun l e1 _ => by
    have h2 := and2 (and2 h).2
    have h3 := and2 h2.2
    have h4 := and2 h3.2
    rw [noOwF (ntB h4.2)]
    refine iteF2 (bindF' (compF (ntB h4.2) (fun d e => putF (ntB h2.1)) (fun e => fT t h3.1 e) (fun e acc => oneMoreF (fC el h4.1 e)) l [] e1) fun r e2 _ => ?_) rfl
    show R.ok _ (backE (e1.set i x) (wipeE (e2.set i x) vs) vs) = R.ok _ _
    rw [wipeF (ntB h4.2), backF (ntB h4.2)]
  | .comp2 it g t it1 g1 t1 el vs vs1, h, e => bindF' (fI it (and2 h).1 e) fun l e1 _ => by
    have h2 := and2 (and2 h).2
    have h3 := and2 h2.2
    have h4 := and2 h3.2
    have h5 := and2 h4.2
    have h6 := and2 h5.2
    have h7 := and2 h6.2
    have h8 := and2 h7.2
    rw [noOwF (ntB h8.1)]
    refine iteF2 (bindF' (compF (ntB h8.1) (fun d e => putF (ntB h2.1)) (fun e => fT t h3.1 e) (fun e acc => bindF' (fI it1 h4.1 e) fun l1 e3 _ => ?_) l [] e1) fun r e2 _ => ?_) rfl
    · rw [noOwF (ntB h8.2)]
      refine iteF2 (bindF' (compF (ntB h8.2) (fun d e => putF (ntB h5.1)) (fun e => fT t1 h6.1 e) (fun e acc => oneMoreF (fC el h7.1 e)) l1 acc e3) fun r e4 _ => ?_) rfl
      show R.ok _ (backE (e3.set i x) (wipeE (e4.set i x) vs1) vs1) = R.ok _ _
      rw [wipeF (ntB h8.2), backF (ntB h8.2)]
    · show R.ok _ (backE (e1.set i x) (wipeE (e2.set i x) vs) vs) = R.ok _ _
      rw [wipeF (ntB h8.1), backF (ntB h8.1)]
  | .pop j, h, e => by
    show (match (e.set i x)[j]? with
      | some (.ow l) => (match l.getLast? with
        | some d => R.ok d ((e.set i x).set j (.ow l.dropLast))
        | none => .bad)
      | _ => .bad) = mapS i x (match e[j]? with
      | some (.ow l) => (match l.getLast? with
        | some d => R.ok d (e.set j (.ow l.dropLast))
        | none => .bad)
      | _ => .bad)
    rw [get_set h]
    cases e[j]? with
    | none => rfl
    | some u =>
      cases u with
      | un => rfl
      | sh d => rfl
      | ow l =>
        show (match l.getLast? with
          | some d => R.ok d ((e.set i x).set j (.ow l.dropLast))
          | none => .bad) = mapS i x (match l.getLast? with
          | some d => R.ok d (e.set j (.ow l.dropLast))
          | none => .bad)
        cases l.getLast? with
        | none => rfl
        | some d => exact congrArg (R.ok d) (set_set' h)
  | .popAt j a, h, e => by
    show (match (e.set i x)[j]? with
      | some (.ow _) => (ev Φ a (e.set i x)).bind _
      | _ => R.bad) = mapS i x (match e[j]? with
      | some (.ow _) => (ev Φ a e).bind _
      | _ => R.bad)
    rw [get_set (and2 h).1]
    cases e[j]? with
    | none => rfl
    | some u =>
      cases u with
      | un => rfl
      | sh d => rfl
      | ow l0 =>
        refine bindF' (fC a (and2 h).2 e) fun k e1 _ => ?_
        cases k with
        | int k =>
          rw [get_set (and2 h).1]
          cases e1[j]? with
          | none => rfl
          | some u =>
            cases u with
            | un => rfl
            | sh d => rfl
            | ow l =>
              refine iteF2 ?_ rfl
              show (match l[k.toNat]? with
                | some d => R.ok d ((e1.set i x).set j (.ow (l.eraseIdx k.toNat)))
                | none => .bad) = mapS i x (match l[k.toNat]? with
                | some d => R.ok d (e1.set j (.ow (l.eraseIdx k.toNat)))
                | none => .bad)
              cases l[k.toNat]? with
              | none => rfl
              | some d => exact congrArg (R.ok d) (set_set' (and2 h).1)
        | _ => rfl
theorem fG : ∀ (a : Ag), ntG i a = true → ∀ e : Sl, evG Φ a (e.set i x) = mapS i x (evG Φ a e)
  | .c c, h, e => bindF' (fC c h e) fun d e1 _ => rfl
  | .b j, h, e => by
    show (match (e.set i x)[j]? with
      | some (.ow _) => R.ok (Sum.inr j : Vr) (e.set i x)
      | some (.sh _) => R.ok (Sum.inr j) (e.set i x)
      | _ => .bad) = mapS i x (match e[j]? with
      | some (.ow _) => R.ok (Sum.inr j : Vr) e
      | some (.sh _) => R.ok (Sum.inr j) e
      | _ => .bad)
    rw [get_set h]
    cases e[j]? with
    | none => rfl
    | some u => cases u <;> rfl
theorem oG : ∀ (a : Ag), ntG i a = true → ∀ (e : Sl) {v : Vr} {e1 : Sl}, evG Φ a e = .ok v e1 → okV i v
  | .c c, h, e, v, e1, q => by
    have q' : (ev Φ c e).bind (fun d e1 => R.ok (Sum.inl d : Vr) e1) = .ok v e1 := q
    cases z : ev Φ c e with
    | ok d e2 => rw [z] at q'; cases q'; intro y; cases y
    | ex _ _ _ => rw [z] at q'; cases q'
    | bad => rw [z] at q'; cases q'
  | .b j, h, e, v, e1, q => by
    have q' : (match e[j]? with
      | some (.ow _) => R.ok (Sum.inr j : Vr) e
      | some (.sh _) => R.ok (Sum.inr j) e
      | _ => .bad) = .ok v e1 := q
    cases z : e[j]? with
    | none => rw [z] at q'; cases q'
    | some u =>
      rw [z] at q'
      cases u with
      | un => cases q'
      | sh d => cases q'; intro y; cases y; exact bne_ne h rfl
      | ow d => cases q'; intro y; cases y; exact bne_ne h rfl
theorem fAs : ∀ (a : As), ntAs i a = true → ∀ e : Sl, evAs Φ a (e.set i x) = mapS i x (evAs Φ a e)
  | .nil, _, e => rfl
  | .cons a r, h, e => bindF' (fG a (and2 h).1 e) fun y e1 _ => bindF' (fAs r (and2 h).2 e1) fun ys e2 _ => rfl
theorem oAs : ∀ (a : As), ntAs i a = true → ∀ (e : Sl) {vs : List Vr} {e1 : Sl}, evAs Φ a e = .ok vs e1 → ∀ v ∈ vs, okV i v
  | .nil, _, e, vs, e1, q, v, hv => by cases q; cases hv
  | .cons a r, h, e, vs, e1, q, v, hv => by
    have q' : (evG Φ a e).bind (fun y e1 => (evAs Φ r e1).bind fun ys e2 => R.ok (y :: ys) e2) = .ok vs e1 := q
    cases z : evG Φ a e with
    | ok y e2 =>
      rw [z] at q'
      have q2 : (evAs Φ r e2).bind (fun ys e2 => R.ok (y :: ys) e2) = .ok vs e1 := q'
      cases z2 : evAs Φ r e2 with
      | ok ys e3 =>
        rw [z2] at q2
        cases q2
        rcases List.mem_cons.mp hv with hv | hv
        · rw [hv]; exact oG a (and2 h).1 e z
        · exact oAs r (and2 h).2 e2 z2 v hv
      | ex _ _ _ => rw [z2] at q2; cases q2
      | bad => rw [z2] at q2; cases q2
    | ex _ _ _ => rw [z] at q'; cases q'
    | bad => rw [z] at q'; cases q'
theorem fP : ∀ (a : Pt), ntP i a = true → ∀ e : Sl, evP Φ a (e.set i x) = mapS i x (evP Φ a e)
  | .no, _, e => rfl
  | .c c, h, e => bindF' (fC c h e) fun d e1 _ => by cases d <;> rfl
theorem fT : ∀ (a : Tt), ntT i a = true → ∀ e : Sl, evT Φ a (e.set i x) = mapS i x (evT Φ a e)
  | .yes, _, e => rfl
  | .c c, h, e => bindF' (fC c h e) fun d e1 _ => optF
theorem fI : ∀ (a : It), ntI i a = true → ∀ e : Sl, evI Φ a (e.set i x) = mapS i x (evI Φ a e)
  | .c a, h, e => bindF' (fG a h e) fun y e1 q => by
    rw [isOwF (oG a h e q)]
    exact iteF2 rfl (bindF' (optF' (vgetF (oG a h e q))) fun d e2 _ => optF)
  | .rng1 a, h, e => bindF' (fC a h e) fun d e1 _ => by
    cases d with
    | int m => exact iteF2 rfl rfl
    | _ => rfl
  | .rng2 a b, h, e => bindF' (fC a (and2 h).1 e) fun y e1 _ => bindF' (fC b (and2 h).2 e1) fun z e2 _ => by
    cases y with
    | int m => cases z with
      | int n => exact iteF2 rfl rfl
      | _ => rfl
    | _ => rfl
  | .enum a, h, e => bindF' (fG a h e) fun y e1 q => by
    rw [isOwF (oG a h e q)]
    exact iteF2 rfl (bindF' (optF' (vgetF (oG a h e q))) fun d e2 _ => bindF' optF fun l e3 _ => rfl)
  | .zip a b, h, e => bindF' (fG a (and2 h).1 e) fun y e1 q => bindF' (fG b (and2 h).2 e1) fun z e2 q2 => by
    rw [isOwF (oG a (and2 h).1 e q), isOwF (oG b (and2 h).2 e1 q2)]
    exact iteF2 rfl (bindF' (optF' (vgetF (oG a (and2 h).1 e q))) fun d e3 _ => bindF' (optF' (vgetF (oG b (and2 h).2 e1 q2))) fun d' e4 _ => iteF2 (bindF' optF fun l e5 _ => bindF' optF fun r e6 _ => rfl) rfl)
end
end
mutual
def ntS (i : Nat) : S → Bool
  | .set j c => j != i && ntC i c
  | .setOw j c => j != i && ntC i c
  | .asg g c => !Tg.elem i g && ntC i c
  | .par j k a b _ _ => j != i && (k != i && (ntC i a && ntC i b))
  | .app j a => j != i && ntC i a
  | .ext j a => j != i && ntC i a
  | .subset j k a => j != i && (ntC i k && ntC i a)
  | .aug j _ a => j != i && ntC i a
  | .augS _ _ _ _ => false
  | .ifs c a b => ntC i c && (ntSs i a && ntSs i b)
  | .whil c b => ntC i c && ntSs i b
  | .forS it g b => ntI i it && (!Tg.elem i g && ntSs i b)
  | .ret c => ntC i c
  | .retOw j => j != i
  | .retN => true
  | .exprS c => ntC i c
  | .raise _ a => ntP i a
  | .frz j => j != i
  | .kill j => j != i
  | .pass => true
  | .brk => true
  | .cont => true
  | .nev => true
def ntSs (i : Nat) : Ss → Bool
  | .nil => true
  | .cons s r => ntS i s && ntSs i r
end
section
variable {Φ : Orc} {N : Nat} {i : Nat} {x : Ent}
theorem putOF {e : Sl} {j : Nat} {o : Bool} {d : D} (h : (j != i) = true) : putO (e.set i x) j o d = (putO e j o d).map (·.set i x) := by
  unfold putO
  rw [get_set h]
  cases e[j]? with
  | none => rfl
  | some u =>
    show (if (isOwE u && decide (j = 0)) = true then none else (if o = true then (owD d).map (fun u => (e.set i x).set j u) else some ((e.set i x).set j (.sh d)))) =
      (if (isOwE u && decide (j = 0)) = true then none else (if o = true then (owD d).map (fun u => e.set j u) else some (e.set j (.sh d)))).map (·.set i x)
    by_cases hc : (isOwE u && decide (j = 0)) = true
    · rw [if_pos hc, if_pos hc]; rfl
    · rw [if_neg hc, if_neg hc]
      by_cases ho : o = true
      · rw [if_pos ho, if_pos ho]
        cases owD d with
        | none => rfl
        | some u => exact congrArg some (set_set' h)
      · rw [if_neg ho, if_neg ho]
        exact congrArg some (set_set' h)
theorem ownF {e : Sl} {j : Nat} (h : (j != i) = true) : ownAt (e.set i x) j = ownAt e j := by
  unfold ownAt
  rw [get_set h]
theorem optN {o : Option Sl} {e : Sl} : (opt (o.map (·.set i x)) (e.set i x)).bind (fun e2 _ => R.ok Fl.nx e2) = mapS i x ((opt o e).bind fun e2 _ => R.ok Fl.nx e2) := by cases o <;> rfl
theorem forF {as : D → Sl → Option Sl} {b : Sl → R Fl} (ha : ∀ d e, as d (e.set i x) = (as d e).map (·.set i x)) (hb : ∀ e, b (e.set i x) = mapS i x (b e)) : ∀ (l : List D) (e : Sl), forGo as b l (e.set i x) = mapS i x (forGo as b l e)
  | [], e => rfl
  | d :: l, e => by
    refine optS (o := as d e) (e := e) (by rw [ha]) fun e1 _ => ?_
    refine bindF' (hb e1) fun f e2 _ => ?_
    cases f with
    | nx => exact forF ha hb l e2
    | ct => exact forF ha hb l e2
    | bk => rfl
    | rt d => rfl
theorem whF {t : Sl → R Bool} {b : Sl → R Fl} (ht : ∀ e, t (e.set i x) = mapS i x (t e)) (hb : ∀ e, b (e.set i x) = mapS i x (b e)) : ∀ (n : Nat) (e : Sl), whGo t b n (e.set i x) = mapS i x (whGo t b n e)
  | 0, e => rfl
  | n + 1, e => by
    refine bindF' (ht e) fun k e1 _ => iteF2 (bindF' (hb e1) fun f e2 _ => ?_) rfl
    cases f with
    | nx => exact whF ht hb n e2
    | ct => exact whF ht hb n e2
    | bk => rfl
    | rt d => rfl
/-- a statement on a list of one's own -/
theorem owM {α : Type} {e : Sl} {j : Nat} {f f' : R α} (h : (j != i) = true) (hf : f' = mapS i x f) : (match (e.set i x)[j]? with
    | some (.ow _) => f'
    | _ => R.bad) = mapS i x (match e[j]? with
    | some (.ow _) => f
    | _ => R.bad) := by
  rw [get_set h]
  cases e[j]? with
  | none => rfl
  | some u =>
    cases u with
    | ow l => exact hf
    | un => rfl
    | sh d => rfl
mutual
theorem fS : ∀ (s : S), ntS i s = true → ∀ e : Sl, evS Φ N s (e.set i x) = mapS i x (evS Φ N s e)
  | .set j c, h, e => bindF' (fC c (and2 h).2 e) fun d e1 _ => by rw [putOF (and2 h).1]; exact optN
  | .setOw j c, h, e => bindF' (fC c (and2 h).2 e) fun d e1 _ => by rw [putOF (and2 h).1]; exact optN
  | .asg g c, h, e => bindF' (fC c (and2 h).2 e) fun d e1 _ => by rw [putF (ntB (and2 h).1)]; exact optN
  | .par j k a b oa ob, h, e => bindF' (fC a (and2 (and2 (and2 h).2).2).1 e) fun d e1 _ => bindF' (fC b (and2 (and2 (and2 h).2).2).2 e1) fun d' e2 _ =>
    optS (o := putO e2 j oa d) (e := e2) (putOF (and2 h).1) fun e3 _ => by rw [putOF (and2 (and2 h).2).1]; exact optN
  | .app j a, h, e => owM (and2 h).1 (bindF' (fC a (and2 h).2 e) fun d e1 _ => bindF' (optF' (ownF (and2 h).1)) fun l e2 _ => iteF2 (congrArg (R.ok Fl.nx) (set_set' (and2 h).1)) rfl)
  | .ext j a, h, e => owM (and2 h).1 (bindF' (fC a (and2 h).2 e) fun d e1 _ => bindF' (optF' (ownF (and2 h).1)) fun l e2 _ => by
    cases d with
    | lst l' => exact iteF2 (congrArg (R.ok Fl.nx) (set_set' (and2 h).1)) rfl
    | _ => rfl)
  | .subset j k a, h, e => owM (and2 h).1 (bindF' (fC a (and2 (and2 h).2).2 e) fun d e1 _ => bindF' (fC k (and2 (and2 h).2).1 e1) fun k e2 _ => bindF' (optF' (ownF (and2 h).1)) fun l e3 _ => by
    cases k with
    | int k => exact bindF' optF fun m e4 _ => congrArg (R.ok Fl.nx) (set_set' (and2 h).1)
    | _ => rfl)
  | .aug j p a, h, e => by
    show (match (e.set i x)[j]? with
      | some (.sh y) => (ev Φ a (e.set i x)).bind fun d e1 => (opt (augOp p y d) e1).bind fun z e1 => (opt (put1 e1 j z) e1).bind fun e2 _ => R.ok Fl.nx e2
      | _ => .bad) = mapS i x (match e[j]? with
      | some (.sh y) => (ev Φ a e).bind fun d e1 => (opt (augOp p y d) e1).bind fun z e1 => (opt (put1 e1 j z) e1).bind fun e2 _ => R.ok Fl.nx e2
      | _ => .bad)
    rw [get_set (and2 h).1]
    cases e[j]? with
    | none => rfl
    | some u =>
      cases u with
      | un => rfl
      | ow l => rfl
      | sh y => exact bindF' (fC a (and2 h).2 e) fun d e1 _ => bindF' optF fun z e2 _ => by rw [put1F (and2 h).1]; exact optN
  | .ifs c a b, h, e => bindF' (fC c (and2 h).1 e) fun d e1 _ => bindF' optF fun k e2 _ => iteF2 (fSs a (and2 (and2 h).2).1 e2) (fSs b (and2 (and2 h).2).2 e2)
  | .whil c b, h, e => whF (fun e => bindF' (fC c (and2 h).1 e) fun d e1 _ => optF) (fun e => fSs b (and2 h).2 e) N e
  | .forS it g b, h, e => bindF' (fI it (and2 h).1 e) fun l e1 _ => forF (fun d e => putF (ntB (and2 (and2 h).2).1)) (fun e => fSs b (and2 (and2 h).2).2 e) l e1
  | .ret c, h, e => bindF' (fC c h e) fun d e1 _ => rfl
  | .retOw j, h, e => by
    show (if j = 0 then R.bad else (opt (ownAt (e.set i x) j) (e.set i x)).bind fun l e => R.ok (Fl.rt (.lst l)) e) = _
    rw [ownF h]
    exact iteF2 rfl (bindF' optF fun l e1 _ => rfl)
  | .retN, _, e => rfl
  | .exprS c, h, e => bindF' (fC c h e) fun d e1 _ => rfl
  | .raise k .no, _, e => rfl
  | .raise k (.c a), h, e => bindF' (fC a h e) fun d e1 _ => rfl
  | .frz j, h, e => by
    show (match (e.set i x)[j]? with
      | some (.ow l) => if j = 0 then R.bad else R.ok Fl.nx ((e.set i x).set j (.sh (.lst l)))
      | some _ => R.ok Fl.nx (e.set i x)
      | none => .bad) = mapS i x (match e[j]? with
      | some (.ow l) => if j = 0 then R.bad else R.ok Fl.nx (e.set j (.sh (.lst l)))
      | some _ => R.ok Fl.nx e
      | none => .bad)
    rw [get_set h]
    cases e[j]? with
    | none => rfl
    | some u =>
      cases u with
      | un => rfl
      | sh d => rfl
      | ow l => exact iteF2 rfl (congrArg (R.ok Fl.nx) (set_set' h))
  | .kill j, h, e => by
    show (match (e.set i x)[j]? with
      | some (.ow l) => if j = 0 then R.bad else R.ok Fl.nx ((e.set i x).set j .un)
      | some _ => R.ok Fl.nx ((e.set i x).set j .un)
      | none => .bad) = mapS i x (match e[j]? with
      | some (.ow l) => if j = 0 then R.bad else R.ok Fl.nx (e.set j .un)
      | some _ => R.ok Fl.nx (e.set j .un)
      | none => .bad)
    rw [get_set h]
    cases e[j]? with
    | none => rfl
    | some u =>
      cases u with
      | un => exact congrArg (R.ok Fl.nx) (set_set' h)
      | sh d => exact congrArg (R.ok Fl.nx) (set_set' h)
      | ow l => exact iteF2 rfl (congrArg (R.ok Fl.nx) (set_set' h))
  | .pass, _, e => rfl
  | .brk, _, e => rfl
  | .cont, _, e => rfl
  | .nev, _, e => rfl
theorem fSs : ∀ (s : Ss), ntSs i s = true → ∀ e : Sl, evSs Φ N s (e.set i x) = mapS i x (evSs Φ N s e)
  | .nil, _, e => rfl
  | .cons s r, h, e => bindF' (fS s (and2 h).1 e) fun f e1 _ => by
    cases f with
    | nx => exact fSs r (and2 h).2 e1
    | bk => rfl
    | ct => rfl
    | rt d => rfl
end
end
/-! ## 18. are two states the same -/
mutual
def deq : D → D → Bool
  | .non, .non => true
  | .bl a, .bl b => a == b
  | .int a, .int b => a == b
  | .str a, .str b => a == b
  | .tup a, .tup b => deqL a b
  | .lst a, .lst b => deqL a b
  | .scr a, .scr b => a == b
  | .fn a, .fn b => a == b
  | _, _ => false
def deqL : List D → List D → Bool
  | [], [] => true
  | a :: l, b :: r => deq a b && deqL l r
  | _, _ => false
end
mutual
theorem deq_ok : ∀ {a b : D}, deq a b = true → a = b
  | .non, b, h => by cases b <;> first | rfl | cases h
  | .bl a, b, h => by cases b <;> first | (rw [eq_of_beq (show (a == _) = true from h)]) | cases h
  | .int a, b, h => by cases b <;> first | (rw [eq_of_beq (show (a == _) = true from h)]) | cases h
  | .str a, b, h => by cases b <;> first | (rw [eq_of_beq (show (a == _) = true from h)]) | cases h
  | .tup a, b, h => by cases b <;> first | (rw [deqL_ok (show deqL a _ = true from h)]) | cases h
  | .lst a, b, h => by cases b <;> first | (rw [deqL_ok (show deqL a _ = true from h)]) | cases h
  | .scr a, b, h => by cases b <;> first | (rw [eq_of_beq (show (a == _) = true from h)]) | cases h
  | .fn a, b, h => by cases b <;> first | (rw [eq_of_beq (show (a == _) = true from h)]) | cases h
theorem deqL_ok : ∀ {a b : List D}, deqL a b = true → a = b
  | [], [], _ => rfl
  | a :: l, b :: r, h => by
    have h' : (deq a b && deqL l r) = true := h
    rw [deq_ok (and2 h').1, deqL_ok (and2 h').2]
  | [], _ :: _, h => by cases h
  | _ :: _, [], h => by cases h
end
def seqE : Sl → Sl → Bool
  | [], [] => true
  | .un :: l, .un :: r => seqE l r
  | .sh a :: l, .sh b :: r => deq a b && seqE l r
  | .ow a :: l, .ow b :: r => deqL a b && seqE l r
  | _, _ => false
theorem seqE_ok : ∀ {a b : Sl}, seqE a b = true → a = b
  | [], [], _ => rfl
  | a :: l, [], h => by cases a <;> cases h
  | [], b :: r, h => by cases b <;> cases h
  | a :: l, b :: r, h => by
    cases a with
    | un =>
      cases b with
      | un => rw [seqE_ok (show seqE l r = true from h)]
      | _ => cases h
    | sh x =>
      cases b with
      | sh y =>
        have h' : (deq x y && seqE l r) = true := h
        rw [deq_ok (and2 h').1, seqE_ok (and2 h').2]
      | _ => cases h
    | ow x =>
      cases b with
      | ow y =>
        have h' : (deqL x y && seqE l r) = true := h
        rw [deqL_ok (and2 h').1, seqE_ok (and2 h').2]
      | _ => cases h
/-- code ss runs on from e to e' -/
def goes (Φ : Orc) (N : Nat) (ss : Ss) (e e' : Sl) : Bool := match evSs Φ N ss e with
  | .ok .nx e2 => seqE e2 e'
  | _ => false
theorem goes_ok {Φ : Orc} {N : Nat} {ss : Ss} {e e' : Sl} (h : goes Φ N ss e e' = true) : evSs Φ N ss e = .ok .nx e' := by
  unfold goes at h
  cases q : evSs Φ N ss e with
  | bad => rw [q] at h; cases h
  | ex _ _ _ => rw [q] at h; cases h
  | ok f e2 =>
    rw [q] at h
    cases f with
    | nx => rw [seqE_ok (show seqE e2 e' = true from h)]
    | _ => cases h
end Pv

namespace Pv
open PySem PySem.Spec PyProof.Rows L2
/-! ## 19. a law's body: the script in slot 0, the draws in slot 1, the rest closed -/
def takeS : Ss → Nat → Ss
  | .cons s r, n + 1 => .cons s (takeS r n)
  | _, _ => .nil
def dropS : Ss → Nat → Ss
  | .cons _ r, n + 1 => dropS r n
  | r, _ => r
def nthS : Ss → Nat → S
  | .cons s _, 0 => s
  | .cons _ r, n + 1 => nthS r n
  | .nil, _ => .nev
def forIt : S → Pv.It
  | .forS it _ _ => it
  | _ => .rng1 (.con (.int 0))
def forTg : S → Tg
  | .forS _ g _ => g
  | _ => .n 0
def forB : S → Ss
  | .forS _ _ b => b
  | _ => .nil
def stOf {α : Type} : R α → Sl
  | .ok _ e => e
  | _ => []
def isNx : R Fl → Bool
  | .ok .nx _ => true
  | _ => false
theorem isNx_ok {r : R Fl} (h : isNx r = true) : r = .ok .nx (stOf r) := by
  cases r with
  | ok f e => cases f <;> first | rfl | cases h
  | ex _ _ _ => cases h
  | bad => cases h
abbrev stt (x t : Ent) (e : Sl) : Sl := (e.set 0 x).set 1 t
section
variable {Φ : Orc} {M : Nat} {x t t' : Ent} {e e' : Sl}
theorem take_drop : ∀ (n : Nat) (ss : Ss) (e : Sl), evSs Φ M ss e = (evSs Φ M (takeS ss n) e).bind fun f e1 => match f with
    | .nx => evSs Φ M (dropS ss n) e1
    | f => .ok f e1
  | 0, ss, e => by cases ss <;> rfl
  | n + 1, .nil, e => rfl
  | n + 1, .cons s r, e => by
    show (evS Φ M s e).bind _ = ((evS Φ M s e).bind fun f e1 => match f with
      | .nx => evSs Φ M (takeS r n) e1
      | f => .ok f e1).bind _
    rw [Run.bindT]
    cases evS Φ M s e with
    | bad => rfl
    | ex _ _ _ => rfl
    | ok f e1 =>
      cases f with
      | nx => exact take_drop n r e1
      | bk => rfl
      | ct => rfl
      | rt d => rfl
theorem split_nx (n : Nat) {ss : Ss} (h : evSs Φ M (takeS ss n) e = .ok .nx e') : evSs Φ M ss e = evSs Φ M (dropS ss n) e' := by
  rw [take_drop n, h]
  rfl
theorem cons_nx {s : S} {r : Ss} (h : evS Φ M s e = .ok .nx e') : evSs Φ M (.cons s r) e = evSs Φ M r e' := by
  show (evS Φ M s e).bind _ = _
  rw [h]
  rfl
theorem stt_ss {ss : Ss} (h0 : ntSs 0 ss = true) (h1 : ntSs 1 ss = true) (h : evSs Φ M ss e = .ok .nx e') : evSs Φ M ss (stt x t e) = .ok .nx (stt x t e') := by
  rw [fSs ss h1, fSs ss h0, h]
  rfl
theorem stt_as {as : As} {vs : List Vr} (h0 : ntAs 0 as = true) (h1 : ntAs 1 as = true) (h : evAs Φ as e = .ok vs e) : evAs Φ as (stt x t e) = .ok vs (stt x t e) := by
  rw [fAs as h1, fAs as h0, h]
  rfl
theorem stt_put {g : Tg} {d : D} (h0 : Tg.elem 0 g = false) (h1 : Tg.elem 1 g = false) (h : put e g d = some e') : put (stt x t e) g d = some (stt x t e') := by
  rw [putF h1, putF h0, h]
  rfl
theorem stt_it {it : Pv.It} {l : List D} (h0 : ntI 0 it = true) (h1 : ntI 1 it = true) (h : evI Φ it e = .ok l e') : evI Φ it (stt x t e) = .ok l (stt x t e') := by
  rw [fI it h1, fI it h0, h]
  rfl
theorem stt_get (h : 1 < e.length) : (stt x t e)[1]? = some t := List.getElem?_set_self (by rw [List.length_set]; exact h)
theorem stt_set : (stt x t e).set 1 t' = stt x t' e := List.set_set _
theorem for_it {it : Pv.It} {g : Tg} {b : Ss} {l : List D} (h : evI Φ it e = .ok l e') : evS Φ M (.forS it g b) e = forGo (fun d e => put e g d) (evSs Φ M b) l e' := by
  rw [evS, h]
  rfl
/-- every item, from the same state to the same state -/
theorem for_same {g : Tg} {b : Ss} : ∀ {l : List D}, (∀ d ∈ l, ∃ e1, put e g d = some e1 ∧ evSs Φ M b e1 = .ok .nx e) → forGo (fun d e => put e g d) (evSs Φ M b) l e = .ok .nx e
  | [], _ => rfl
  | d :: l, h => by
    obtain ⟨e1, h1, h2⟩ := h d List.mem_cons_self
    show (opt (put e g d) e).bind _ = _
    rw [h1]
    show (evSs Φ M b e1).bind _ = _
    rw [h2]
    exact for_same fun d hd => h d (List.mem_cons_of_mem _ hd)
/-- for .. in pick(tin, ..) -/
theorem for_pick {fl : Bool} {k : Nat} {as : As} {g : Tg} {b : Ss} {vs : List Vr} {ds found tl tl' : List D} (hl : 1 < e.length) (a0 : ntAs 0 as = true) (a1 : ntAs 1 as = true) (g0 : Tg.elem 0 g = false) (g1 : Tg.elem 1 g = false) (b0 : ntSs 0 b = true) (b1 : ntSs 1 b = true)
    (h1 : evAs Φ as e = .ok vs e) (h2 : vgets e vs = some ds) (h3 : vs.any (isOw e) = false) (hp : Φ k (some tl) ds = .ok (.lst found) (some tl')) (hb : ∀ d ∈ found, ∃ e1, put e g d = some e1 ∧ evSs Φ M b e1 = .ok .nx e) :
    evS Φ M (.forS (.c (.c (.callT fl k 1 as))) g b) (stt x (.ow tl) e) = .ok .nx (stt x (.ow tl') e) := by
  have v0 := oAs (x := x) as a0 e h1
  have v1 := oAs (x := x) as a1 e h1
  have hv : vgets (stt x (.ow tl) e) vs = some ds := by rw [vgetsF v1, vgetsF v0, h2]
  have ho : vs.any (isOw (stt x (.ow tl) e)) = false := by rw [anyF v1, anyF v0, h3]
  have hc : ev Φ (.callT fl k 1 as) (stt x (.ow tl) e) = .ok (.lst found) (stt x (.ow tl') e) := by
    rw [ev, stt_get hl]
    show (evAs Φ as (stt x (.ow tl) e)).bind _ = _
    rw [stt_as a0 a1 h1]
    show (opt (vgets (stt x (.ow tl) e) vs) (stt x (.ow tl) e)).bind _ = _
    rw [hv]
    show (if vs.any (isOw (stt x (.ow tl) e)) = true then _ else _) = _
    rw [if_neg (by rw [ho]; exact Bool.false_ne_true), stt_get hl]
    show (match Φ k (some tl) ds with
      | .ok d (some t') => R.ok d ((stt x (.ow tl) e).set 1 (.ow t'))
      | _ => .bad) = _
    rw [hp]
    show R.ok _ ((stt x (.ow tl) e).set 1 (.ow tl')) = _
    rw [stt_set]
  have hi : evI Φ (.c (.c (.callT fl k 1 as))) (stt x (.ow tl) e) = .ok found (stt x (.ow tl') e) := by
    rw [evI, evG, hc]
    rfl
  rw [for_it hi]
  exact for_same fun d hd => by
    obtain ⟨e1, q1, q2⟩ := hb d hd
    exact ⟨_, stt_put g0 g1 q1, stt_ss b0 b1 q2⟩
end
theorem fn_step {T : Nat → Option Df} {fr : Nat → Bool} {M : Nat} {g : Gm} {P : Program} {w : World} {mg : Str → Option Value} {base : Heap} {n k : Nat} {x : Str} {st : Stmt} {fd : FuncData} {N ps : List Str} (har : ∀ k, g.ar k = arOf T k) (h : ∀ k df, T k = some df → DefOk T fr M g P w mg base k df) {df : Df} (hT : T k = some df)
    (F : Fun g.K x x st (g.fa k) fd) (S : FnScope N ps (defScope st)) (hN : N.length = df.sl) (hps : ps.length ≤ df.sl)
    (hb : ∀ (Φ : Orc) (n : Nat) (cdv : Value) (A : Around) (outer : List Env) (s : Shared) (H : Hp) (E : XK), Room n (A.deeper (envOfC x (defScope st) s.heap.objs.size (g.fa k) cdv)) → HeldX Φ fr g (cxOf (L2.CX P w) P w g.K mg base N x (defScope st) (g.fa k) cdv A outer s H E) →
      DSs Φ M g (fun c d _ H => E c d H) (fr k) df.io (cxOf (L2.CX P w) P w g.K mg base N x (defScope st) (g.fa k) cdv A outer s H E) (defBody st) df.body) :
    FnOk P w g.K mg base (L2.CX P w) (n + 1) (g.fa k) fd ps (spF g (callN T M (n + 1) k) df.io (fr k) ps.length) := by
  refine F.okX S (fun vs H Q E z => z.1) fun cdv A outer s H vs Q E hr hsp => ?_
  exact ⟨_, hb (callN T M n) n cdv A outer s H E hr (held_of har (all_ok har h n) hr), body_of hT hN (by rw [hsp.1]; exact hps) hsp⟩
theorem cx_none {P : Program} {w : World} {H : Hp} {s : Shared} {e : Value} {s' : Shared} {l : List Env} (h : L2.CX P w l H s (fun _ _ _ => False) e s') : False := by
  obtain ⟨_, _, _, _, _, _, _, _, _, _, _, _, z⟩ := h
  exact z.elim
end Pv

/-! ## The defs of this law: names, codes, derivations (printed by gen.py) -/
namespace Lw
open PySem PySem.Spec PyProof.Rows L2 Pv
def tops (i : Nat) : Stmt := PySem.Challenge.pw_partedbyties_k10_judges_and_odd_things.main.body.getD i (.Pass ⟨0, 0, 0, 0⟩)
abbrev st_0 : Stmt := tops 4
abbrev nm_0 : List Str := ["thing"]
def co_0 : Ss := (.cons (.ret (.and (.op1 (.isi ["int"]) (.c (.var 0))) (.op1 .not (.c (.op1 (.isi ["bool"]) (.c (.var 0))))))) .nil)
abbrev st_1 : Stmt := tops 5
abbrev nm_1 : List Str := ["thing", "least", "most"]
def co_1 : Ss := (.cons (.ret (.and (.call false 0 (.cons (.c (.var 0)) .nil)) (.chain .le .le (.var 1) (.var 0) (.var 2)))) .nil)
abbrev st_2 : Stmt := tops 6
abbrev nm_2 : List Str := ["thing", "length"]
def co_2 : Ss := (.cons (.ret (.and (.op1 (.isi ["tuple"]) (.c (.var 0))) (.op2 .eq (.c (.op1 .len (.c (.var 0)))) (.c (.var 1))))) .nil)
abbrev st_3 : Stmt := tops 7
abbrev nm_3 : List Str := ["thing", "least", "most", "own"]
def co_3 : Ss := (.cons (.ret (.and (.op1 (.isi ["tuple"]) (.c (.var 0))) (.op1 .all (.c (.comp (.c (.c (.var 0))) (.n 3) .yes (.call false 1 (.cons (.c (.var 3)) (.cons (.c (.var 1)) (.cons (.c (.var 2)) .nil)))) [3]))))) .nil)
abbrev st_4 : Stmt := tops 8
abbrev nm_4 : List Str := ["value", "own"]
def co_4 : Ss := (.cons (.ret (.ife (.op1 (.isi ["list", "tuple"]) (.c (.var 0))) (.op1 .tuple (.c (.comp (.c (.c (.var 0))) (.n 1) .yes (.call false 4 (.cons (.c (.var 1)) .nil)) [1]))) (.var 0))) .nil)
abbrev st_5 : Stmt := tops 9
abbrev nm_5 : List Str := ["thing", "least", "most"]
def co_5 : Ss := (.cons (.ifs (.op1 .not (.c (.call false 1 (.cons (.c (.var 0)) (.cons (.c (.var 1)) (.cons (.c (.var 2)) .nil)))))) (.cons .nev .nil) .nil) (.cons (.ret (.var 0)) .nil))
abbrev st_6 : Stmt := tops 10
abbrev nm_6 : List Str := ["thing", "many", "k"]
def co_6 : Ss := (.cons (.ifs (.op1 .not (.c (.call false 3 (.cons (.c (.var 0)) (.cons (.c (.con (.int 0))) (.cons (.c (.op2 .sub (.c (.var 1)) (.c (.con (.int 1))))) .nil)))))) (.cons (.ret (.con (.bl false))) .nil) .nil) (.cons (.ret (.op1 .all (.c (.comp (.rng1 (.op2 .sub (.c (.op1 .len (.c (.var 0)))) (.c (.con (.int 1))))) (.n 2) .yes (.op2 .lt (.c (.op2 .ix (.c (.var 0)) (.c (.var 2)))) (.c (.op2 .ix (.c (.var 0)) (.c (.op2 .add (.c (.var 2)) (.c (.con (.int 1)))))))) [2])))) .nil))
abbrev st_7 : Stmt := tops 11
abbrev nm_7 : List Str := ["some", "other", "own"]
def co_7 : Ss := (.cons (.ret (.op1 .tuple (.c (.comp (.c (.c (.var 0))) (.n 2) (.c (.op2 .notin (.c (.var 2)) (.c (.var 1)))) (.var 2) [2])))) .nil)
abbrev st_8 : Stmt := tops 12
abbrev nm_8 : List Str := ["some", "size", "found", "_", "own", "its"]
def co_8 : Ss := (.cons (.set 2 (.lst (.cons (.c (.tup .nil)) .nil))) (.cons (.forS (.rng1 (.var 1)) (.n 3) (.cons (setC false 2 (.comp2 (.c (.c (.var 2))) (.n 4) .yes (.c (.c (.var 0))) (.n 5) (.c (.or (.op2 .eq (.c (.var 4)) (.c (.tup .nil))) (.op2 .gt (.c (.var 5)) (.c (.op2 .ix (.c (.var 4)) (.c (.op1 .neg (.c (.con (.int 1)))))))))) (.op2 .add (.c (.var 4)) (.c (.tup (.cons (.c (.var 5)) .nil)))) [4, 5] [5])) (.cons (.kill 3) .nil))) (.cons (.ret (.var 2)) .nil)))
abbrev st_9 : Stmt := tops 13
abbrev nm_9 : List Str := ["some", "found", "size"]
def co_9 : Ss := (.cons (.setOw 1 (.lst .nil)) (.cons (.forS (.rng1 (.op2 .add (.c (.op1 .len (.c (.var 0)))) (.c (.con (.int 1))))) (.n 2) (.cons (.ext 1 (.call false 8 (.cons (.c (.var 0)) (.cons (.c (.var 2)) .nil)))) (.cons (.kill 2) .nil))) (.cons (.retOw 1) .nil)))
abbrev st_10 : Stmt := tops 17
abbrev nm_10 : List Str := ["thing", "many"]
def co_10 : Ss := (.cons (.ret (.and (.call false 2 (.cons (.c (.var 0)) (.cons (.c (.con (.int 2))) .nil))) (.call false 6 (.cons (.c (.var 0)) (.cons (.c (.var 1)) .nil))))) .nil)
abbrev st_11 : Stmt := tops 18
abbrev nm_11 : List Str := ["thing", "k", "own"]
def co_11 : Ss := (.cons (.ifs (.or (.op1 .not (.c (.call false 2 (.cons (.c (.var 0)) (.cons (.c (.con (.int 2))) .nil))))) (.or (.op1 .not (.c (.call false 1 (.cons (.c (.op2 .ix (.c (.var 0)) (.c (.con (.int 0))))) (.cons (.c (.con (.int 1))) (.cons (.c (.con (.int 12))) .nil)))))) (.op1 .not (.c (.op1 (.isi ["tuple"]) (.c (.op2 .ix (.c (.var 0)) (.c (.con (.int 1)))))))))) (.cons (.ret (.con (.bl false))) .nil) .nil) (.cons (.ifs (.op1 .not (.c (.op1 .all (.c (.comp (.c (.c (.op2 .ix (.c (.var 0)) (.c (.con (.int 1)))))) (.n 2) .yes (.call false 10 (.cons (.c (.var 2)) (.cons (.c (.op2 .ix (.c (.var 0)) (.c (.con (.int 0))))) .nil))) [2]))))) (.cons (.ret (.con (.bl false))) .nil) .nil) (.cons (.ret (.op1 .all (.c (.comp (.rng1 (.op2 .sub (.c (.op1 .len (.c (.op2 .ix (.c (.var 0)) (.c (.con (.int 1))))))) (.c (.con (.int 1))))) (.n 1) .yes (.op2 .lt (.c (.op2 .ix (.c (.op2 .ix (.c (.var 0)) (.c (.con (.int 1))))) (.c (.var 1)))) (.c (.op2 .ix (.c (.op2 .ix (.c (.var 0)) (.c (.con (.int 1))))) (.c (.op2 .add (.c (.var 1)) (.c (.con (.int 1)))))))) [1])))) .nil)))
abbrev st_12 : Stmt := tops 19
abbrev nm_12 : List Str := ["value", "own"]
def co_12 : Ss := (.cons (.set 1 (.call false 4 (.cons (.c (.var 0)) .nil))) (.cons (.ifs (.op1 .not (.c (.call false 11 (.cons (.c (.var 1)) .nil)))) (.cons .nev .nil) .nil) (.cons (.ret (.var 1)) .nil)))
abbrev st_13 : Stmt := tops 20
abbrev nm_13 : List Str := ["web", "one", "other"]
def co_13 : Ss := (.cons (.ret (.op2 .isin (.c (.ife (.op2 .lt (.c (.var 1)) (.c (.var 2))) (.tup (.cons (.c (.var 1)) (.cons (.c (.var 2)) .nil))) (.tup (.cons (.c (.var 2)) (.cons (.c (.var 1)) .nil))))) (.c (.op2 .ix (.c (.var 0)) (.c (.con (.int 1))))))) .nil)
abbrev st_14 : Stmt := tops 21
abbrev nm_14 : List Str := ["web", "place", "tie"]
def co_14 : Ss := (.cons (.ret (.op1 .len (.c (.comp (.c (.c (.op2 .ix (.c (.var 0)) (.c (.con (.int 1)))))) (.n 2) (.c (.op2 .isin (.c (.var 1)) (.c (.var 2)))) (.con (.int 1)) [2])))) .nil)
abbrev st_15 : Stmt := tops 22
abbrev nm_15 : List Str := ["web", "place", "some", "own"]
def co_15 : Ss := (.cons (.ret (.op1 .len (.c (.comp (.c (.c (.var 2))) (.n 3) (.c (.and (.op2 .ne (.c (.var 3)) (.c (.var 1))) (.call false 13 (.cons (.c (.var 0)) (.cons (.c (.var 1)) (.cons (.c (.var 3)) .nil)))))) (.con (.int 1)) [3])))) .nil)
abbrev st_16 : Stmt := tops 23
abbrev nm_16 : List Str := ["web", "many", "thing"]
def co_16 : Ss := (.cons (.ret (.and (.call false 3 (.cons (.c (.var 2)) (.cons (.c (.con (.int 0))) (.cons (.c (.op2 .sub (.c (.var 1)) (.c (.con (.int 1))))) .nil)))) (.op2 .eq (.c (.op1 .len (.c (.var 2)))) (.c (.op2 .ix (.c (.var 0)) (.c (.con (.int 0)))))))) .nil)
abbrev st_17 : Stmt := tops 24
abbrev nm_17 : List Str := ["web", "many", "value", "own"]
def co_17 : Ss := (.cons (.set 3 (.call false 4 (.cons (.c (.var 2)) .nil))) (.cons (.ifs (.op1 .not (.c (.call false 16 (.cons (.c (.var 0)) (.cons (.c (.var 1)) (.cons (.c (.var 3)) .nil)))))) (.cons .nev .nil) .nil) (.cons (.ret (.var 3)) .nil)))
abbrev st_18 : Stmt := tops 25
abbrev nm_18 : List Str := ["lots", "number", "place", "own"]
def co_18 : Ss := (.cons (.ret (.op1 .tuple (.c (.comp (.enum (.c (.var 0))) (.ts [2, 3]) (.c (.op2 .eq (.c (.var 3)) (.c (.var 1)))) (.var 2) [2, 3])))) .nil)
abbrev st_19 : Stmt := tops 26
abbrev nm_19 : List Str := ["web", "lots", "place"]
def co_19 : Ss := (.cons (.ret (.call false 15 (.cons (.c (.var 0)) (.cons (.c (.var 2)) (.cons (.c (.call false 18 (.cons (.c (.var 1)) (.cons (.c (.op2 .ix (.c (.var 1)) (.c (.var 2)))) .nil)))) .nil))))) .nil)
abbrev st_20 : Stmt := tops 27
abbrev nm_20 : List Str := ["web", "lots", "tie"]
def co_20 : Ss := (.cons (.ret (.op1 .tuple (.c (.comp (.c (.c (.op2 .ix (.c (.var 0)) (.c (.con (.int 1)))))) (.n 2) (.c (.op2 .eq (.c (.op2 .ix (.c (.var 1)) (.c (.op2 .ix (.c (.var 2)) (.c (.con (.int 0))))))) (.c (.op2 .ix (.c (.var 1)) (.c (.op2 .ix (.c (.var 2)) (.c (.con (.int 1))))))))) (.var 2) [2])))) .nil)
abbrev st_21 : Stmt := tops 28
abbrev nm_21 : List Str := ["web", "many", "found", "_", "own", "lot"]
def co_21 : Ss := (.cons (.set 2 (.lst (.cons (.c (.tup .nil)) .nil))) (.cons (.forS (.rng1 (.op2 .ix (.c (.var 0)) (.c (.con (.int 0))))) (.n 3) (.cons (setC false 2 (.comp2 (.c (.c (.var 2))) (.n 4) .yes (.rng1 (.var 1)) (.n 5) .yes (.op2 .add (.c (.var 4)) (.c (.tup (.cons (.c (.var 5)) .nil)))) [4, 5] [5])) (.cons (.kill 3) .nil))) (.cons (.ret (.var 2)) .nil)))
abbrev st_22 : Stmt := tops 29
abbrev nm_22 : List Str := ["thing"]
def co_22 : Ss := (.cons (.ret (.call false 11 (.cons (.c (.var 0)) .nil))) .nil)
abbrev st_23 : Stmt := tops 30
abbrev nm_23 : List Str := ["web", "many", "thing", "own"]
def co_23 : Ss := (.cons (.set 3 (.call false 12 (.cons (.c (.var 0)) .nil))) (.cons (.ret (.call false 16 (.cons (.c (.var 3)) (.cons (.c (.call false 5 (.cons (.c (.var 1)) (.cons (.c (.con (.int 1))) (.cons (.c (.con (.int 6))) .nil))))) (.cons (.c (.var 2)) .nil))))) .nil))
abbrev st_24 : Stmt := tops 32
abbrev nm_24 : List Str := ["web", "thing"]
def co_24 : Ss := (.cons (.ret (.and (.call false 3 (.cons (.c (.var 1)) (.cons (.c (.con (.int 0))) (.cons (.c (.con (.int 1))) .nil)))) (.op2 .eq (.c (.op1 .len (.c (.var 1)))) (.c (.op2 .ix (.c (.var 0)) (.c (.con (.int 0)))))))) .nil)
abbrev st_25 : Stmt := tops 33
abbrev nm_25 : List Str := ["web", "value", "own"]
def co_25 : Ss := (.cons (.set 2 (.call false 4 (.cons (.c (.var 1)) .nil))) (.cons (.ifs (.op1 .not (.c (.call false 24 (.cons (.c (.var 0)) (.cons (.c (.var 2)) .nil))))) (.cons .nev .nil) .nil) (.cons (.ret (.var 2)) .nil)))
abbrev st_26 : Stmt := tops 34
abbrev nm_26 : List Str := ["web", "some"]
def co_26 : Ss := (.cons (.ret (.call false 7 (.cons (.c (.op1 .tuple (.c (.listR (.con (.int 0)) (.op2 .ix (.c (.var 0)) (.c (.con (.int 0)))))))) (.cons (.c (.var 1)) .nil)))) .nil)
abbrev st_27 : Stmt := tops 35
abbrev nm_27 : List Str := ["web", "some", "place"]
def co_27 : Ss := (.cons (.ret (.call false 15 (.cons (.c (.var 0)) (.cons (.c (.var 2)) (.cons (.c (.ife (.op2 .isin (.c (.var 2)) (.c (.var 1))) (.var 1) (.call false 26 (.cons (.c (.var 0)) (.cons (.c (.var 1)) .nil))))) .nil))))) .nil)
abbrev st_28 : Stmt := tops 36
abbrev nm_28 : List Str := ["web", "wishes", "some", "place"]
def co_28 : Ss := (.cons (.ret (.op1 .all (.c (.comp (.rng1 (.op2 .ix (.c (.var 0)) (.c (.con (.int 0))))) (.n 3) .yes (.op2 .eq (.c (.op2 .mod (.c (.call false 27 (.cons (.c (.var 0)) (.cons (.c (.var 2)) (.cons (.c (.var 3)) .nil))))) (.c (.con (.int 2))))) (.c (.op2 .ix (.c (.var 1)) (.c (.var 3))))) [3])))) .nil)
abbrev st_29 : Stmt := tops 37
abbrev nm_29 : List Str := ["web", "found", "place", "row", "other"]
def co_29 : Ss := (.cons (.setOw 1 (.lst .nil)) (.cons (.forS (.rng1 (.op2 .ix (.c (.var 0)) (.c (.con (.int 0))))) (.n 2) (.cons (setC true 3 (.comp (.rng1 (.op2 .ix (.c (.var 0)) (.c (.con (.int 0))))) (.n 4) .yes (.ife (.and (.op2 .ne (.c (.var 4)) (.c (.var 2))) (.call false 13 (.cons (.c (.var 0)) (.cons (.c (.var 2)) (.cons (.c (.var 4)) .nil))))) (.con (.int 1)) (.con (.int 0))) [4])) (.cons (.subset 3 (.var 2) (.op2 .mod (.c (.call false 14 (.cons (.c (.var 0)) (.cons (.c (.var 2)) .nil)))) (.c (.con (.int 2))))) (.cons (.frz 3) (.cons (.app 1 (.var 3)) (.cons (.kill 2) (.cons (.kill 3) .nil))))))) (.cons (.retOw 1) .nil)))
abbrev st_30 : Stmt := tops 38
abbrev nm_30 : List Str := ["web", "thing"]
def co_30 : Ss := (.cons (.ret (.call false 24 (.cons (.c (.call false 12 (.cons (.c (.var 0)) .nil))) (.cons (.c (.var 1)) .nil)))) .nil)
abbrev st_31 : Stmt := tops 39
abbrev nm_31 : List Str := ["web", "wishes", "thing", "own", "its"]
def co_31 : Ss := (.cons (.set 3 (.call false 12 (.cons (.c (.var 0)) .nil))) (.cons (.set 4 (.call false 25 (.cons (.c (.var 3)) (.cons (.c (.var 1)) .nil)))) (.cons (.ret (.and (.call false 6 (.cons (.c (.var 2)) (.cons (.c (.op2 .ix (.c (.var 3)) (.c (.con (.int 0))))) .nil))) (.call false 28 (.cons (.c (.var 3)) (.cons (.c (.var 4)) (.cons (.c (.var 2)) .nil)))))) .nil)))
abbrev st_32 : Stmt := tops 40
abbrev nm_32 : List Str := ["web", "some", "place"]
def co_32 : Ss := (.cons (.ret (.op1 .all (.c (.comp (.rng1 (.op2 .ix (.c (.var 0)) (.c (.con (.int 0))))) (.n 2) .yes (.op2 .eq (.c (.op2 .mod (.c (.call false 27 (.cons (.c (.var 0)) (.cons (.c (.var 1)) (.cons (.c (.var 2)) .nil))))) (.c (.con (.int 2))))) (.c (.ife (.op2 .isin (.c (.var 2)) (.c (.var 1))) (.con (.int 0)) (.con (.int 1))))) [2])))) .nil)
abbrev st_33 : Stmt := tops 41
abbrev nm_33 : List Str := ["web", "thing", "own"]
def co_33 : Ss := (.cons (.set 2 (.call false 12 (.cons (.c (.var 0)) .nil))) (.cons (.ret (.and (.call false 6 (.cons (.c (.var 1)) (.cons (.c (.op2 .ix (.c (.var 2)) (.c (.con (.int 0))))) .nil))) (.call false 32 (.cons (.c (.var 2)) (.cons (.c (.var 1)) .nil))))) .nil))
abbrev st_34 : Stmt := tops 42
abbrev nm_34 : List Str := ["web", "wishes", "some", "row", "place"]
def co_34 : Ss := (.cons (.forS (.c (.c (.call true 29 (.cons (.c (.var 0)) .nil)))) (.n 3) (.cons (.ifs (.op2 .ne (.c (.op2 .mod (.c (.op1 .sum (.c (.comp (.c (.c (.var 2))) (.n 4) .yes (.op2 .ix (.c (.var 3)) (.c (.var 4))) [4])))) (.c (.con (.int 2))))) (.c (.con (.int 0)))) (.cons (.ret (.con (.bl false))) .nil) .nil) (.cons (.kill 3) .nil))) (.cons (.ret (.op2 .eq (.c (.op2 .mod (.c (.op1 .sum (.c (.comp (.c (.c (.var 2))) (.n 4) .yes (.op2 .ix (.c (.var 1)) (.c (.var 4))) [4])))) (.c (.con (.int 2))))) (.c (.con (.int 1))))) .nil))
abbrev st_35 : Stmt := tops 43
abbrev nm_35 : List Str := ["web", "wishes", "thing", "own", "its"]
def co_35 : Ss := (.cons (.set 3 (.call false 12 (.cons (.c (.var 0)) .nil))) (.cons (.set 4 (.call false 25 (.cons (.c (.var 3)) (.cons (.c (.var 1)) .nil)))) (.cons (.ret (.and (.call false 6 (.cons (.c (.var 2)) (.cons (.c (.op2 .ix (.c (.var 3)) (.c (.con (.int 0))))) .nil))) (.call false 34 (.cons (.c (.var 3)) (.cons (.c (.var 4)) (.cons (.c (.var 2)) .nil)))))) .nil)))
abbrev st_36 : Stmt := tops 45
abbrev nm_36 : List Str := ["web", "some", "tie"]
def co_36 : Ss := (.cons (.ret (.op1 .len (.c (.comp (.c (.c (.op2 .ix (.c (.var 0)) (.c (.con (.int 1)))))) (.n 2) (.c (.op2 .ne (.c (.op2 .isin (.c (.op2 .ix (.c (.var 2)) (.c (.con (.int 0))))) (.c (.var 1)))) (.c (.op2 .isin (.c (.op2 .ix (.c (.var 2)) (.c (.con (.int 1))))) (.c (.var 1)))))) (.con (.int 1)) [2])))) .nil)
abbrev st_37 : Stmt := tops 46
abbrev nm_37 : List Str := ["web"]
def co_37 : Ss := (.cons (.ret (.call true 9 (.cons (.c (.listR (.con (.int 1)) (.op2 .ix (.c (.var 0)) (.c (.con (.int 0)))))) .nil))) .nil)
abbrev st_38 : Stmt := tops 47
abbrev nm_38 : List Str := ["web", "own", "some"]
def co_38 : Ss := (.cons (.set 1 (.call false 12 (.cons (.c (.var 0)) .nil))) (.cons (.ret (.op1 .max (.c (.comp (.c (.c (.call true 37 (.cons (.c (.var 1)) .nil)))) (.n 2) .yes (.call false 36 (.cons (.c (.var 1)) (.cons (.c (.var 2)) .nil))) [2])))) .nil))
abbrev st_39 : Stmt := tops 48
abbrev nm_39 : List Str := ["web", "thing", "own"]
def co_39 : Ss := (.cons (.set 2 (.call false 12 (.cons (.c (.var 0)) .nil))) (.cons (.ret (.and (.call false 6 (.cons (.c (.var 1)) (.cons (.c (.op2 .ix (.c (.var 2)) (.c (.con (.int 0))))) .nil))) (.op2 .eq (.c (.call false 36 (.cons (.c (.var 2)) (.cons (.c (.var 1)) .nil)))) (.c (.call false 38 (.cons (.c (.var 2)) .nil)))))) .nil))
abbrev st_40 : Stmt := tops 49
abbrev nm_40 : List Str := ["web", "thing", "own", "k", "place"]
def co_40 : Ss := (.cons (.set 2 (.call false 12 (.cons (.c (.var 0)) .nil))) (.cons (.ifs (.or (.op1 .not (.c (.op1 (.isi ["tuple"]) (.c (.var 1))))) (.op1 .not (.c (.op1 .all (.c (.comp (.c (.c (.var 1))) (.n 4) .yes (.call false 1 (.cons (.c (.var 4)) (.cons (.c (.con (.int 0))) (.cons (.c (.op2 .sub (.c (.op2 .ix (.c (.var 2)) (.c (.con (.int 0))))) (.c (.con (.int 1))))) .nil)))) [4])))))) (.cons (.ret (.con (.bl false))) .nil) .nil) (.cons (.ifs (.or (.op2 .lt (.c (.op1 .len (.c (.var 1)))) (.c (.con (.int 3)))) (.or (.op2 .eq (.c (.op2 .mod (.c (.op1 .len (.c (.var 1)))) (.c (.con (.int 2))))) (.c (.con (.int 0)))) (.op2 .ne (.c (.op1 .lenset (.c (.var 1)))) (.c (.op1 .len (.c (.var 1))))))) (.cons (.ret (.con (.bl false))) .nil) .nil) (.cons (.ret (.op1 .all (.c (.comp (.rng1 (.op1 .len (.c (.var 1)))) (.n 3) .yes (.call false 13 (.cons (.c (.var 2)) (.cons (.c (.op2 .ix (.c (.var 1)) (.c (.op2 .sub (.c (.var 3)) (.c (.con (.int 1))))))) (.cons (.c (.op2 .ix (.c (.var 1)) (.c (.var 3)))) .nil)))) [3])))) .nil))))
abbrev st_41 : Stmt := tops 52
abbrev nm_41 : List Str := ["thing"]
def co_41 : Ss := (.cons (.ret (.and (.call false 3 (.cons (.c (.var 0)) (.cons (.c (.con (.int 0))) (.cons (.c (.op2 .sub (.c (.con (.int 12))) (.c (.con (.int 1))))) .nil)))) (.chain .le .le (.con (.int 1)) (.op1 .len (.c (.var 0))) (.con (.int 6))))) .nil)
abbrev st_42 : Stmt := tops 53
abbrev nm_42 : List Str := ["value", "own"]
def co_42 : Ss := (.cons (.set 1 (.call false 4 (.cons (.c (.var 0)) .nil))) (.cons (.ifs (.op1 .not (.c (.call false 41 (.cons (.c (.var 1)) .nil)))) (.cons .nev .nil) .nil) (.cons (.ret (.var 1)) .nil)))
abbrev st_43 : Stmt := tops 54
abbrev nm_43 : List Str := ["web", "limits", "lots", "place"]
def co_43 : Ss := (.cons (.ret (.op1 .all (.c (.comp (.rng1 (.op2 .ix (.c (.var 0)) (.c (.con (.int 0))))) (.n 3) .yes (.op2 .le (.c (.call false 19 (.cons (.c (.var 0)) (.cons (.c (.var 2)) (.cons (.c (.var 3)) .nil))))) (.c (.op2 .ix (.c (.var 1)) (.c (.op2 .ix (.c (.var 2)) (.c (.var 3))))))) [3])))) .nil)
abbrev st_44 : Stmt := tops 55
abbrev nm_44 : List Str := ["web", "limits", "lots", "lot"]
def co_44 : Ss := (.cons (.ret (.op2 .sub (.c (.op1 .len (.c (.call false 20 (.cons (.c (.var 0)) (.cons (.c (.var 2)) .nil)))))) (.c (.op1 .sum (.c (.comp (.c (.c (.var 2))) (.n 3) .yes (.op2 .ix (.c (.var 1)) (.c (.var 3))) [3])))))) .nil)
abbrev st_45 : Stmt := tops 56
abbrev nm_45 : List Str := ["web", "limits", "lots", "found", "place", "lot"]
def co_45 : Ss := (.cons (.setOw 3 (.lst .nil)) (.cons (.forS (.rng1 (.op2 .ix (.c (.var 0)) (.c (.con (.int 0))))) (.n 4) (.cons (.ifs (.op2 .gt (.c (.call false 19 (.cons (.c (.var 0)) (.cons (.c (.var 2)) (.cons (.c (.var 4)) .nil))))) (.c (.op2 .ix (.c (.var 1)) (.c (.op2 .ix (.c (.var 2)) (.c (.var 4))))))) (.cons (.forS (.rng1 (.op1 .len (.c (.var 1)))) (.n 5) (.cons (.ifs (.and (.op2 .ne (.c (.var 5)) (.c (.op2 .ix (.c (.var 2)) (.c (.var 4))))) (.op2 .le (.c (.call false 15 (.cons (.c (.var 0)) (.cons (.c (.var 4)) (.cons (.c (.call false 18 (.cons (.c (.var 2)) (.cons (.c (.var 5)) .nil)))) .nil))))) (.c (.op2 .ix (.c (.var 1)) (.c (.var 5)))))) (.cons (.app 3 (.tup (.cons (.c (.var 4)) (.cons (.c (.var 5)) .nil)))) .nil) .nil) (.cons (.kill 5) .nil))) .nil) .nil) (.cons (.kill 4) (.cons (.kill 5) .nil)))) (.cons (.retOw 3) .nil)))
abbrev st_46 : Stmt := tops 57
abbrev nm_46 : List Str := ["lots", "place", "lot"]
def co_46 : Ss := (.cons (.ret (.op2 .add (.c (.op2 .add (.c (.slice (.c (.var 0)) .no (.c (.var 1)))) (.c (.tup (.cons (.c (.var 2)) .nil))))) (.c (.slice (.c (.var 0)) (.c (.op2 .add (.c (.var 1)) (.c (.con (.int 1))))) .no)))) .nil)
abbrev st_47 : Stmt := tops 58
abbrev nm_47 : List Str := ["web", "many", "found", "_"]
def co_47 : Ss := (.cons (.set 2 (.con (.int 1))) (.cons (.forS (.rng1 (.op2 .ix (.c (.var 0)) (.c (.con (.int 0))))) (.n 3) (.cons (.aug 2 .mul (.var 1)) (.cons (.ifs (.op2 .gt (.c (.var 2)) (.c (.con (.int 5000)))) (.cons .nev .nil) .nil) (.cons (.kill 3) .nil)))) (.cons (.ret (.var 2)) .nil)))
abbrev st_48 : Stmt := tops 59
abbrev nm_48 : List Str := ["thing"]
def co_48 : Ss := (.cons (.ret (.call false 41 (.cons (.c (.var 0)) .nil))) .nil)
abbrev st_49 : Stmt := tops 60
abbrev nm_49 : List Str := ["web", "limits", "thing", "own", "its"]
def co_49 : Ss := (.cons (.par 3 4 (.call false 12 (.cons (.c (.var 0)) .nil)) (.call false 42 (.cons (.c (.var 1)) .nil)) false false) (.cons (.ret (.and (.call false 16 (.cons (.c (.var 3)) (.cons (.c (.op1 .len (.c (.var 4)))) (.cons (.c (.var 2)) .nil)))) (.call false 43 (.cons (.c (.var 3)) (.cons (.c (.var 4)) (.cons (.c (.var 2)) .nil)))))) .nil))
abbrev st_50 : Stmt := tops 61
abbrev nm_50 : List Str := ["web", "limits", "lots", "thing", "own", "its", "here", "move"]
def co_50 : Ss := (.cons (.par 4 5 (.call false 12 (.cons (.c (.var 0)) .nil)) (.call false 42 (.cons (.c (.var 1)) .nil)) false false) (.cons (.set 6 (.call false 17 (.cons (.c (.var 4)) (.cons (.c (.op1 .len (.c (.var 5)))) (.cons (.c (.var 2)) .nil))))) (.cons (.ifs (.op1 .not (.c (.op1 (.isi ["tuple"]) (.c (.var 3))))) (.cons (.ret (.con (.bl false))) .nil) .nil) (.cons (.forS (.c (.c (.var 3))) (.n 7) (.cons (.ifs (.or (.op1 .not (.c (.call false 2 (.cons (.c (.var 7)) (.cons (.c (.con (.int 2))) .nil))))) (.or (.op1 .not (.c (.call false 3 (.cons (.c (.var 7)) (.cons (.c (.con (.int 0))) (.cons (.c (.con (.int 12))) .nil)))))) (.op2 .notin (.c (.var 7)) (.c (.call true 45 (.cons (.c (.var 4)) (.cons (.c (.var 5)) (.cons (.c (.var 6)) .nil)))))))) (.cons (.ret (.con (.bl false))) .nil) .nil) (.cons (.set 6 (.call true 46 (.cons (.c (.var 6)) (.cons (.c (.op2 .ix (.c (.var 7)) (.c (.con (.int 0))))) (.cons (.c (.op2 .ix (.c (.var 7)) (.c (.con (.int 1))))) .nil))))) (.cons (.kill 7) .nil)))) (.cons (.ret (.call false 43 (.cons (.c (.var 4)) (.cons (.c (.var 5)) (.cons (.c (.var 6)) .nil))))) .nil)))))
abbrev st_51 : Stmt := tops 62
abbrev nm_51 : List Str := ["web", "limits", "thing", "own", "its", "lots"]
def co_51 : Ss := (.cons (.asg (.ts [3, 4]) (.tup (.cons (.c (.call false 12 (.cons (.c (.var 0)) .nil))) (.cons (.c (.call false 42 (.cons (.c (.var 1)) .nil))) .nil)))) (.cons (.exprS (.call false 47 (.cons (.c (.var 3)) (.cons (.c (.op1 .len (.c (.var 4)))) .nil)))) (.cons (.ifs (.op1 .not (.c (.call false 16 (.cons (.c (.var 3)) (.cons (.c (.op1 .len (.c (.var 4)))) (.cons (.c (.var 2)) .nil)))))) (.cons (.ret (.con (.bl false))) .nil) .nil) (.cons (.ret (.op2 .eq (.c (.call false 44 (.cons (.c (.var 3)) (.cons (.c (.var 4)) (.cons (.c (.var 2)) .nil))))) (.c (.op1 .min (.c (.comp (.c (.c (.call false 21 (.cons (.c (.var 3)) (.cons (.c (.op1 .len (.c (.var 4)))) .nil))))) (.n 5) .yes (.call false 44 (.cons (.c (.var 3)) (.cons (.c (.var 4)) (.cons (.c (.var 5)) .nil)))) [5])))))) .nil))))
abbrev st_52 : Stmt := tops 65
abbrev nm_52 : List Str := ["thing"]
def co_52 : Ss := (.cons (.ret (.and (.call false 3 (.cons (.c (.var 0)) (.cons (.c (.con (.int 1))) (.cons (.c (.con (.int 12))) .nil)))) (.chain .le .le (.con (.int 1)) (.op1 .len (.c (.var 0))) (.con (.int 6))))) .nil)
abbrev st_53 : Stmt := tops 66
abbrev nm_53 : List Str := ["value", "own"]
def co_53 : Ss := (.cons (.set 1 (.call false 4 (.cons (.c (.var 0)) .nil))) (.cons (.ifs (.op1 .not (.c (.call false 52 (.cons (.c (.var 1)) .nil)))) (.cons .nev .nil) .nil) (.cons (.ret (.var 1)) .nil)))
abbrev st_54 : Stmt := tops 67
abbrev nm_54 : List Str := ["web", "shares", "lots", "place"]
def co_54 : Ss := (.cons (.ret (.op2 .le (.c (.op2 .mul (.c (.op1 .sum (.c (.var 1)))) (.c (.call false 19 (.cons (.c (.var 0)) (.cons (.c (.var 2)) (.cons (.c (.var 3)) .nil))))))) (.c (.op2 .mul (.c (.op2 .ix (.c (.var 1)) (.c (.op2 .ix (.c (.var 2)) (.c (.var 3)))))) (.c (.call false 14 (.cons (.c (.var 0)) (.cons (.c (.var 3)) .nil)))))))) .nil)
abbrev st_55 : Stmt := tops 68
abbrev nm_55 : List Str := ["web", "shares", "lots", "place"]
def co_55 : Ss := (.cons (.ret (.op1 .all (.c (.comp (.rng1 (.op2 .ix (.c (.var 0)) (.c (.con (.int 0))))) (.n 3) .yes (.call false 54 (.cons (.c (.var 0)) (.cons (.c (.var 1)) (.cons (.c (.var 2)) (.cons (.c (.var 3)) .nil))))) [3])))) .nil)
abbrev st_56 : Stmt := tops 69
abbrev nm_56 : List Str := ["web", "shares", "lots", "found", "place", "lot", "there"]
def co_56 : Ss := (.cons (.setOw 3 (.lst .nil)) (.cons (.forS (.rng1 (.op2 .ix (.c (.var 0)) (.c (.con (.int 0))))) (.n 4) (.cons (.ifs (.op1 .not (.c (.call false 54 (.cons (.c (.var 0)) (.cons (.c (.var 1)) (.cons (.c (.var 2)) (.cons (.c (.var 4)) .nil))))))) (.cons (.forS (.rng1 (.op1 .len (.c (.var 1)))) (.n 5) (.cons (.set 6 (.call false 15 (.cons (.c (.var 0)) (.cons (.c (.var 4)) (.cons (.c (.call false 18 (.cons (.c (.var 2)) (.cons (.c (.var 5)) .nil)))) .nil))))) (.cons (.ifs (.and (.op2 .ne (.c (.var 5)) (.c (.op2 .ix (.c (.var 2)) (.c (.var 4))))) (.op2 .lt (.c (.op2 .mul (.c (.op1 .sum (.c (.var 1)))) (.c (.var 6)))) (.c (.op2 .mul (.c (.op2 .ix (.c (.var 1)) (.c (.var 5)))) (.c (.call false 14 (.cons (.c (.var 0)) (.cons (.c (.var 4)) .nil)))))))) (.cons (.app 3 (.tup (.cons (.c (.var 4)) (.cons (.c (.var 5)) .nil)))) .nil) .nil) (.cons (.kill 5) (.cons (.kill 6) .nil))))) .nil) .nil) (.cons (.kill 4) (.cons (.kill 5) (.cons (.kill 6) .nil))))) (.cons (.retOw 3) .nil)))
abbrev st_57 : Stmt := tops 70
abbrev nm_57 : List Str := ["lots", "place", "lot"]
def co_57 : Ss := (.cons (.ret (.op2 .add (.c (.op2 .add (.c (.slice (.c (.var 0)) .no (.c (.var 1)))) (.c (.tup (.cons (.c (.var 2)) .nil))))) (.c (.slice (.c (.var 0)) (.c (.op2 .add (.c (.var 1)) (.c (.con (.int 1))))) .no)))) .nil)
abbrev st_58 : Stmt := tops 71
abbrev nm_58 : List Str := ["thing"]
def co_58 : Ss := (.cons (.ret (.call false 52 (.cons (.c (.var 0)) .nil))) .nil)
abbrev st_59 : Stmt := tops 72
abbrev nm_59 : List Str := ["web", "shares", "thing", "own", "its"]
def co_59 : Ss := (.cons (.par 3 4 (.call false 12 (.cons (.c (.var 0)) .nil)) (.call false 53 (.cons (.c (.var 1)) .nil)) false false) (.cons (.ret (.and (.call false 16 (.cons (.c (.var 3)) (.cons (.c (.op1 .len (.c (.var 4)))) (.cons (.c (.var 2)) .nil)))) (.call false 55 (.cons (.c (.var 3)) (.cons (.c (.var 4)) (.cons (.c (.var 2)) .nil)))))) .nil))
abbrev st_60 : Stmt := tops 73
abbrev nm_60 : List Str := ["web", "shares", "lots", "thing", "own", "its", "here", "move"]
def co_60 : Ss := (.cons (.par 4 5 (.call false 12 (.cons (.c (.var 0)) .nil)) (.call false 53 (.cons (.c (.var 1)) .nil)) false false) (.cons (.set 6 (.call false 17 (.cons (.c (.var 4)) (.cons (.c (.op1 .len (.c (.var 5)))) (.cons (.c (.var 2)) .nil))))) (.cons (.ifs (.op1 .not (.c (.op1 (.isi ["tuple"]) (.c (.var 3))))) (.cons (.ret (.con (.bl false))) .nil) .nil) (.cons (.forS (.c (.c (.var 3))) (.n 7) (.cons (.ifs (.or (.op1 .not (.c (.call false 2 (.cons (.c (.var 7)) (.cons (.c (.con (.int 2))) .nil))))) (.or (.op1 .not (.c (.call false 3 (.cons (.c (.var 7)) (.cons (.c (.con (.int 0))) (.cons (.c (.con (.int 12))) .nil)))))) (.op2 .notin (.c (.var 7)) (.c (.call true 56 (.cons (.c (.var 4)) (.cons (.c (.var 5)) (.cons (.c (.var 6)) .nil)))))))) (.cons (.ret (.con (.bl false))) .nil) .nil) (.cons (.set 6 (.call true 57 (.cons (.c (.var 6)) (.cons (.c (.op2 .ix (.c (.var 7)) (.c (.con (.int 0))))) (.cons (.c (.op2 .ix (.c (.var 7)) (.c (.con (.int 1))))) .nil))))) (.cons (.kill 7) .nil)))) (.cons (.ret (.call false 55 (.cons (.c (.var 4)) (.cons (.c (.var 5)) (.cons (.c (.var 6)) .nil))))) .nil)))))
abbrev st_61 : Stmt := tops 75
abbrev nm_61 : List Str := ["web", "thing"]
def co_61 : Ss := (.cons (.ret (.and (.call false 3 (.cons (.c (.var 1)) (.cons (.c (.con (.int 0))) (.cons (.c (.op2 .sub (.c (.con (.int 12))) (.c (.con (.int 1))))) .nil)))) (.op2 .eq (.c (.op1 .len (.c (.var 1)))) (.c (.op2 .ix (.c (.var 0)) (.c (.con (.int 0)))))))) .nil)
abbrev st_62 : Stmt := tops 76
abbrev nm_62 : List Str := ["web", "thing", "own"]
def co_62 : Ss := (.cons (.ret (.and (.call false 2 (.cons (.c (.var 1)) (.cons (.c (.con (.int 2))) .nil))) (.op1 .all (.c (.comp (.c (.c (.var 1))) (.n 2) .yes (.call false 61 (.cons (.c (.var 0)) (.cons (.c (.var 2)) .nil))) [2]))))) .nil)
abbrev st_63 : Stmt := tops 77
abbrev nm_63 : List Str := ["web", "value", "own"]
def co_63 : Ss := (.cons (.set 2 (.call false 4 (.cons (.c (.var 1)) .nil))) (.cons (.ifs (.op1 .not (.c (.call false 62 (.cons (.c (.var 0)) (.cons (.c (.var 2)) .nil))))) (.cons .nev .nil) .nil) (.cons (.ret (.var 2)) .nil)))
abbrev st_64 : Stmt := tops 78
abbrev nm_64 : List Str := ["web", "value", "own"]
def co_64 : Ss := (.cons (.set 2 (.call false 4 (.cons (.c (.var 1)) .nil))) (.cons (.ifs (.op1 .not (.c (.call false 61 (.cons (.c (.var 0)) (.cons (.c (.var 2)) .nil))))) (.cons .nev .nil) .nil) (.cons (.ret (.var 2)) .nil)))
abbrev st_65 : Stmt := tops 79
abbrev nm_65 : List Str := ["web", "numbers", "some", "place"]
def co_65 : Ss := (.cons (.ret (.op1 .all (.c (.comp (.c (.c (.var 2))) (.n 3) .yes (.op2 .ge (.c (.call false 15 (.cons (.c (.var 0)) (.cons (.c (.var 3)) (.cons (.c (.var 2)) .nil))))) (.c (.op2 .ix (.c (.var 1)) (.c (.var 3))))) [3])))) .nil)
abbrev st_66 : Stmt := tops 80
abbrev nm_66 : List Str := ["web", "wants", "some", "rest"]
def co_66 : Ss := (.cons (.set 3 (.call false 7 (.cons (.c (.op1 .tuple (.c (.listR (.con (.int 0)) (.op2 .ix (.c (.var 0)) (.c (.con (.int 0)))))))) (.cons (.c (.var 2)) .nil)))) (.cons (.ret (.and (.op2 .ne (.c (.var 2)) (.c (.tup .nil))) (.and (.op2 .ne (.c (.var 3)) (.c (.tup .nil))) (.and (.call false 65 (.cons (.c (.var 0)) (.cons (.c (.op2 .ix (.c (.var 1)) (.c (.con (.int 0))))) (.cons (.c (.var 2)) .nil)))) (.call false 65 (.cons (.c (.var 0)) (.cons (.c (.op2 .ix (.c (.var 1)) (.c (.con (.int 1))))) (.cons (.c (.var 3)) .nil)))))))) .nil))
abbrev st_67 : Stmt := tops 81
abbrev nm_67 : List Str := ["web", "thing"]
def co_67 : Ss := (.cons (.ret (.call false 62 (.cons (.c (.call false 12 (.cons (.c (.var 0)) .nil))) (.cons (.c (.var 1)) .nil)))) .nil)
abbrev st_68 : Stmt := tops 82
abbrev nm_68 : List Str := ["web", "numbers", "thing", "own", "its"]
def co_68 : Ss := (.cons (.set 3 (.call false 12 (.cons (.c (.var 0)) .nil))) (.cons (.set 4 (.call false 64 (.cons (.c (.var 3)) (.cons (.c (.var 1)) .nil)))) (.cons (.ret (.and (.call false 6 (.cons (.c (.var 2)) (.cons (.c (.op2 .ix (.c (.var 3)) (.c (.con (.int 0))))) .nil))) (.call false 65 (.cons (.c (.var 3)) (.cons (.c (.var 4)) (.cons (.c (.var 2)) .nil)))))) .nil)))
abbrev st_69 : Stmt := tops 83
abbrev nm_69 : List Str := ["web", "wants", "thing", "own", "its"]
def co_69 : Ss := (.cons (.set 3 (.call false 12 (.cons (.c (.var 0)) .nil))) (.cons (.set 4 (.call false 63 (.cons (.c (.var 3)) (.cons (.c (.var 1)) .nil)))) (.cons (.ret (.and (.call false 6 (.cons (.c (.var 2)) (.cons (.c (.op2 .ix (.c (.var 3)) (.c (.con (.int 0))))) .nil))) (.call false 66 (.cons (.c (.var 3)) (.cons (.c (.var 4)) (.cons (.c (.var 2)) .nil)))))) .nil)))
abbrev st_70 : Stmt := tops 85
abbrev nm_70 : List Str := ["script", "k", "bit_so"]
def co_70 : Ss := (.cons (.set 2 (.ife (.op2 .lt (.c (.var 1)) (.c (.op1 .len (.c (.var 0))))) (.op2 .ix (.c (.var 0)) (.c (.var 1))) (.con (.int 0)))) (.cons (.ret (.lst (.cons (.c (.op2 .mul (.c (.op1 .abs (.c (.var 2)))) (.c (.op1 .int (.c (.op2 .ge (.c (.op1 .abs (.c (.var 2)))) (.c (.op2 .pow (.c (.con (.int 10))) (.c (.con (.int 18))))))))))) (.cons (.c (.op2 .add (.c (.op2 .add (.c (.op2 .mod (.c (.op1 .int (.c (.var 2)))) (.c (.con (.int 2305843009213693951))))) (.c (.op2 .mul (.c (.con (.int 39373))) (.c (.var 1)))))) (.c (.con (.int 268850))))) (.cons (.c (.con (.int 0))) .nil))))) .nil))
abbrev st_71 : Stmt := tops 86
abbrev nm_71 : List Str := ["tin", "below_so", "drawn_so", "once_so", "wide_so", "twice_so"]
def co_71 : Ss := (.cons (.ifs (.op2 .gt (.c (.op2 .ix (.b 0) (.c (.con (.int 0))))) (.c (.con (.int 0)))) (.cons (.set 2 (.op2 .mod (.c (.op1 .int (.c (.op2 .ix (.b 0) (.c (.con (.int 0))))))) (.c (.var 1)))) (.cons (.subset 0 (.con (.int 0)) (.op2 .div (.c (.op2 .ix (.b 0) (.c (.con (.int 0))))) (.c (.var 1)))) (.cons (.ret (.var 2)) .nil))) .nil) (.cons (.subset 0 (.con (.int 2)) (.op2 .add (.c (.op2 .ix (.b 0) (.c (.con (.int 2))))) (.c (.con (.int 1))))) (.cons (.set 3 (.op2 .mod (.c (.op1 .int (.c (.op2 .mul (.c (.op2 .add (.c (.op2 .ix (.b 0) (.c (.con (.int 1))))) (.c (.op2 .mul (.c (.con (.int 48271))) (.c (.op2 .ix (.b 0) (.c (.con (.int 2))))))))) (.c (.op2 .add (.c (.con (.int 39373))) (.c (.op2 .ix (.b 0) (.c (.con (.int 2))))))))))) (.c (.con (.int 2147483647))))) (.cons (.set 4 (.op2 .add (.c (.op2 .mod (.c (.op1 .int (.c (.var 3)))) (.c (.con (.int 40009))))) (.c (.con (.int 7))))) (.cons (.set 5 (.op2 .mod (.c (.op1 .int (.c (.op2 .mul (.c (.op2 .add (.c (.op2 .add (.c (.var 3)) (.c (.op2 .ix (.b 0) (.c (.con (.int 2))))))) (.c (.op2 .div (.c (.op2 .ix (.b 0) (.c (.con (.int 1))))) (.c (.con (.int 1000003))))))) (.c (.var 4)))))) (.c (.con (.int 2147483629))))) (.cons (.ret (.op2 .mod (.c (.op1 .int (.c (.op2 .div (.c (.op2 .mod (.c (.op1 .int (.c (.op2 .add (.c (.op2 .mul (.c (.var 5)) (.c (.con (.int 48271))))) (.c (.var 3)))))) (.c (.con (.int 2147483587))))) (.c (.con (.int 64))))))) (.c (.var 1)))) .nil))))))
abbrev st_72 : Stmt := tops 87
abbrev nm_72 : List Str := ["script", "most_so", "cells_so", "k", "bit_so", "at_so"]
def co_72 : Ss := (.cons (.setOw 2 (.or (.op1 .list (.c (.slice (.c (.var 0)) .no (.c (.var 1))))) (.lst (.cons (.c (.con (.int 0))) .nil)))) (.cons (.forS (.enum (.c (.slice (.c (.var 0)) (.c (.var 1)) (.c (.con (.int 63)))))) (.ts [3, 4]) (.cons (.set 5 (.op2 .mod (.c (.op1 .int (.c (.var 3)))) (.c (.var 1)))) (.cons (.subset 2 (.var 5) (.op2 .add (.c (.op2 .ix (.b 2) (.c (.var 5)))) (.c (.op2 .mul (.c (.var 4)) (.c (.op2 .add (.c (.var 3)) (.c (.con (.int 2))))))))) (.cons (.kill 3) (.cons (.kill 4) (.cons (.kill 5) .nil)))))) (.cons (.retOw 2) .nil)))
abbrev st_73 : Stmt := tops 88
abbrev nm_73 : List Str := ["tin", "goods_so", "count_so", "pool_so", "found", "lap"]
def co_73 : Ss := (.cons (.par 3 4 (.op1 .list (.c (.var 1))) (.lst .nil) true true) (.cons (.forS (.rng1 (.op22 .min (.c (.op1 .int (.c (.var 2)))) (.c (.op1 .len (.b 3))))) (.n 5) (.cons (.app 4 (.popAt 3 (.callT false 71 0 (.cons (.c (.op1 .len (.b 3))) .nil)))) (.cons (.kill 5) .nil))) (.cons (.retOw 4) .nil)))
abbrev st_74 : Stmt := tops 89
abbrev nm_74 : List Str := ["got", "due", "mine", "its"]
def co_74 : Ss := (.cons (.ifs (.op1 (.isi ["list", "tuple"]) (.c (.var 1))) (.cons (.ifs (.or (.op2 .ne (.c (.op1 (.isi ["list"]) (.c (.var 0)))) (.c (.op1 (.isi ["list"]) (.c (.var 1))))) (.op2 .ne (.c (.op1 (.isi ["tuple"]) (.c (.var 0)))) (.c (.op1 (.isi ["tuple"]) (.c (.var 1)))))) (.cons (.ret (.con (.bl false))) .nil) .nil) (.cons (.ret (.and (.op2 .eq (.c (.op1 .len (.c (.var 0)))) (.c (.op1 .len (.c (.var 1))))) (.op1 .all (.c (.comp (.zip (.c (.var 0)) (.c (.var 1))) (.ts [2, 3]) .yes (.call false 74 (.cons (.c (.var 2)) (.cons (.c (.var 3)) .nil))) [2, 3]))))) .nil)) .nil) (.cons (.ifs (.op1 .isN (.c (.var 1))) (.cons (.ret (.op1 .isN (.c (.var 0)))) .nil) .nil) (.cons (.ifs (.op1 (.isi ["bool", "str"]) (.c (.var 1))) (.cons (.ret (.and (.op2 .eq (.c (.op1 (.isi ["bool"]) (.c (.var 0)))) (.c (.op1 (.isi ["bool"]) (.c (.var 1))))) (.and (.op2 .eq (.c (.op1 (.isi ["str"]) (.c (.var 0)))) (.c (.op1 (.isi ["str"]) (.c (.var 1))))) (.op2 .eq (.c (.var 0)) (.c (.var 1)))))) .nil) .nil) (.cons (.ret (.and (.op1 (.isi ["int"]) (.c (.var 0))) (.and (.op1 .not (.c (.op1 (.isi ["bool"]) (.c (.var 0))))) (.op2 .eq (.c (.var 0)) (.c (.var 1)))))) .nil))))
abbrev st_75 : Stmt := tops 90
abbrev nm_75 : List Str := ["door", "goods_so"]
def co_75 : Ss := (.cons (.ifs (.op2 .eq (.c (.op1 .len (.c (.var 1)))) (.c (.con (.int 1)))) (.cons (.ret (.callV 0 (.cons (.c (.op2 .ix (.c (.var 1)) (.c (.con (.int 0))))) .nil))) .nil) .nil) (.cons (.ifs (.op2 .eq (.c (.op1 .len (.c (.var 1)))) (.c (.con (.int 2)))) (.cons (.ret (.callV 0 (.cons (.c (.op2 .ix (.c (.var 1)) (.c (.con (.int 0))))) (.cons (.c (.op2 .ix (.c (.var 1)) (.c (.con (.int 1))))) .nil)))) .nil) .nil) (.cons (.ifs (.op2 .eq (.c (.op1 .len (.c (.var 1)))) (.c (.con (.int 3)))) (.cons (.ret (.callV 0 (.cons (.c (.op2 .ix (.c (.var 1)) (.c (.con (.int 0))))) (.cons (.c (.op2 .ix (.c (.var 1)) (.c (.con (.int 1))))) (.cons (.c (.op2 .ix (.c (.var 1)) (.c (.con (.int 2))))) .nil))))) .nil) .nil) (.cons (.ifs (.op2 .eq (.c (.op1 .len (.c (.var 1)))) (.c (.con (.int 4)))) (.cons (.ret (.callV 0 (.cons (.c (.op2 .ix (.c (.var 1)) (.c (.con (.int 0))))) (.cons (.c (.op2 .ix (.c (.var 1)) (.c (.con (.int 1))))) (.cons (.c (.op2 .ix (.c (.var 1)) (.c (.con (.int 2))))) (.cons (.c (.op2 .ix (.c (.var 1)) (.c (.con (.int 3))))) .nil)))))) .nil) .nil) (.cons (.ret (.callV 0 (.cons (.c (.op2 .ix (.c (.var 1)) (.c (.con (.int 0))))) (.cons (.c (.op2 .ix (.c (.var 1)) (.c (.con (.int 1))))) (.cons (.c (.op2 .ix (.c (.var 1)) (.c (.con (.int 2))))) (.cons (.c (.op2 .ix (.c (.var 1)) (.c (.con (.int 3))))) (.cons (.c (.op2 .ix (.c (.var 1)) (.c (.con (.int 4))))) .nil))))))) .nil)))))
abbrev st_76 : Stmt := tops 91
abbrev nm_76 : List Str := ["script", "tin", "ring_so", "three_so", "pair_so", "rights_so", "door", "ahead_so", "own", "bends_so", "k", "bad_so", "bent_so", "wild_so", "deep_so", "step_so", "its"]
def co_76 : Ss := (.cons (.setOw 1 (.call true 70 (.cons (.c (.call true 72 (.cons (.c (.var 0)) (.cons (.c (.con (.int 1))) .nil)))) (.cons (.c (.con (.int 0))) .nil)))) (.cons (.asg (.ts [2, 3, 4]) (.tup (.cons (.c (.tup (.cons (.c (.con (.int 4))) (.cons (.c (.tup (.cons (.c (.tup (.cons (.c (.con (.int 0))) (.cons (.c (.con (.int 1))) .nil)))) (.cons (.c (.tup (.cons (.c (.con (.int 0))) (.cons (.c (.con (.int 3))) .nil)))) (.cons (.c (.tup (.cons (.c (.con (.int 1))) (.cons (.c (.con (.int 2))) .nil)))) (.cons (.c (.tup (.cons (.c (.con (.int 2))) (.cons (.c (.con (.int 3))) .nil)))) .nil)))))) .nil)))) (.cons (.c (.tup (.cons (.c (.con (.int 3))) (.cons (.c (.tup (.cons (.c (.tup (.cons (.c (.con (.int 0))) (.cons (.c (.con (.int 1))) .nil)))) (.cons (.c (.tup (.cons (.c (.con (.int 0))) (.cons (.c (.con (.int 2))) .nil)))) (.cons (.c (.tup (.cons (.c (.con (.int 1))) (.cons (.c (.con (.int 2))) .nil)))) .nil))))) .nil)))) (.cons (.c (.tup (.cons (.c (.con (.int 2))) (.cons (.c (.tup (.cons (.c (.tup (.cons (.c (.con (.int 0))) (.cons (.c (.con (.int 1))) .nil)))) .nil))) .nil)))) .nil))))) (.cons (.set 5 (.lst (.cons (.c (.tup (.cons (.c (.con (.fn 22))) (.cons (.c (.tup .nil)) (.cons (.c (.var 3)) .nil))))) (.cons (.c (.tup (.cons (.c (.con (.fn 23))) (.cons (.c (.tup (.cons (.c (.var 3)) (.cons (.c (.con (.int 2))) .nil)))) (.cons (.c (.tup (.cons (.c (.con (.int 0))) (.cons (.c (.con (.int 1))) (.cons (.c (.con (.int 1))) .nil))))) .nil))))) (.cons (.c (.tup (.cons (.c (.con (.fn 48))) (.cons (.c (.tup .nil)) (.cons (.c (.tup (.cons (.c (.con (.int 1))) (.cons (.c (.con (.int 0))) .nil)))) .nil))))) (.cons (.c (.tup (.cons (.c (.con (.fn 49))) (.cons (.c (.tup (.cons (.c (.var 3)) (.cons (.c (.tup (.cons (.c (.con (.int 1))) (.cons (.c (.con (.int 0))) .nil)))) .nil)))) (.cons (.c (.tup (.cons (.c (.con (.int 1))) (.cons (.c (.con (.int 0))) (.cons (.c (.con (.int 0))) .nil))))) .nil))))) (.cons (.c (.tup (.cons (.c (.con (.fn 51))) (.cons (.c (.tup (.cons (.c (.var 3)) (.cons (.c (.tup (.cons (.c (.con (.int 1))) (.cons (.c (.con (.int 0))) .nil)))) .nil)))) (.cons (.c (.tup (.cons (.c (.con (.int 0))) (.cons (.c (.con (.int 0))) (.cons (.c (.con (.int 1))) .nil))))) .nil))))) (.cons (.c (.tup (.cons (.c (.con (.fn 50))) (.cons (.c (.tup (.cons (.c (.var 3)) (.cons (.c (.tup (.cons (.c (.con (.int 1))) (.cons (.c (.con (.int 0))) .nil)))) (.cons (.c (.tup (.cons (.c (.con (.int 0))) (.cons (.c (.con (.int 0))) (.cons (.c (.con (.int 0))) .nil))))) .nil))))) (.cons (.c (.tup (.cons (.c (.tup (.cons (.c (.con (.int 2))) (.cons (.c (.con (.int 1))) .nil)))) .nil))) .nil))))) .nil)))))))) (.cons (.set 5 (.op2 .add (.c (.var 5)) (.c (.lst (.cons (.c (.tup (.cons (.c (.con (.fn 58))) (.cons (.c (.tup .nil)) (.cons (.c (.tup (.cons (.c (.con (.int 3))) (.cons (.c (.con (.int 2))) .nil)))) .nil))))) (.cons (.c (.tup (.cons (.c (.con (.fn 59))) (.cons (.c (.tup (.cons (.c (.var 3)) (.cons (.c (.tup (.cons (.c (.con (.int 1))) (.cons (.c (.con (.int 1))) .nil)))) .nil)))) (.cons (.c (.tup (.cons (.c (.con (.int 0))) (.cons (.c (.con (.int 0))) (.cons (.c (.con (.int 1))) .nil))))) .nil))))) (.cons (.c (.tup (.cons (.c (.con (.fn 60))) (.cons (.c (.tup (.cons (.c (.var 3)) (.cons (.c (.tup (.cons (.c (.con (.int 1))) (.cons (.c (.con (.int 2))) .nil)))) (.cons (.c (.tup (.cons (.c (.con (.int 1))) (.cons (.c (.con (.int 0))) (.cons (.c (.con (.int 0))) .nil))))) .nil))))) (.cons (.c (.tup (.cons (.c (.tup (.cons (.c (.con (.int 1))) (.cons (.c (.con (.int 1))) .nil)))) .nil))) .nil))))) (.cons (.c (.tup (.cons (.c (.con (.fn 67))) (.cons (.c (.tup (.cons (.c (.var 4)) .nil))) (.cons (.c (.tup (.cons (.c (.tup (.cons (.c (.con (.int 1))) (.cons (.c (.con (.int 0))) .nil)))) (.cons (.c (.tup (.cons (.c (.con (.int 0))) (.cons (.c (.con (.int 1))) .nil)))) .nil)))) .nil))))) (.cons (.c (.tup (.cons (.c (.con (.fn 68))) (.cons (.c (.tup (.cons (.c (.var 2)) (.cons (.c (.tup (.cons (.c (.con (.int 1))) (.cons (.c (.con (.int 1))) (.cons (.c (.con (.int 1))) (.cons (.c (.con (.int 1))) .nil)))))) .nil)))) (.cons (.c (.tup (.cons (.c (.con (.int 0))) (.cons (.c (.con (.int 1))) .nil)))) .nil))))) .nil))))))))) (.cons (.set 5 (.op2 .add (.c (.var 5)) (.c (.lst (.cons (.c (.tup (.cons (.c (.con (.fn 69))) (.cons (.c (.tup (.cons (.c (.var 2)) (.cons (.c (.tup (.cons (.c (.op2 .mul (.c (.tup (.cons (.c (.con (.int 1))) .nil))) (.c (.con (.int 4))))) (.cons (.c (.op2 .mul (.c (.tup (.cons (.c (.con (.int 1))) .nil))) (.c (.con (.int 4))))) .nil)))) .nil)))) (.cons (.c (.tup (.cons (.c (.con (.int 0))) (.cons (.c (.con (.int 1))) .nil)))) .nil))))) (.cons (.c (.tup (.cons (.c (.con (.fn 30))) (.cons (.c (.tup (.cons (.c (.var 3)) .nil))) (.cons (.c (.tup (.cons (.c (.con (.int 0))) (.cons (.c (.con (.int 1))) (.cons (.c (.con (.int 1))) .nil))))) .nil))))) (.cons (.c (.tup (.cons (.c (.con (.fn 31))) (.cons (.c (.tup (.cons (.c (.var 3)) (.cons (.c (.tup (.cons (.c (.con (.int 0))) (.cons (.c (.con (.int 1))) (.cons (.c (.con (.int 1))) .nil))))) .nil)))) (.cons (.c (.tup (.cons (.c (.con (.int 0))) .nil))) .nil))))) (.cons (.c (.tup (.cons (.c (.con (.fn 33))) (.cons (.c (.tup (.cons (.c (.var 3)) .nil))) (.cons (.c (.tup (.cons (.c (.con (.int 1))) .nil))) .nil))))) (.cons (.c (.tup (.cons (.c (.con (.fn 35))) (.cons (.c (.tup (.cons (.c (.var 4)) (.cons (.c (.tup (.cons (.c (.con (.int 1))) (.cons (.c (.con (.int 0))) .nil)))) .nil)))) (.cons (.c (.tup (.cons (.c (.con (.int 0))) (.cons (.c (.con (.int 1))) .nil)))) .nil))))) .nil))))))))) (.cons (.set 5 (.op2 .add (.c (.var 5)) (.c (.lst (.cons (.c (.tup (.cons (.c (.con (.fn 39))) (.cons (.c (.tup (.cons (.c (.var 3)) .nil))) (.cons (.c (.tup (.cons (.c (.con (.int 1))) (.cons (.c (.con (.int 2))) .nil)))) .nil))))) (.cons (.c (.tup (.cons (.c (.con (.fn 40))) (.cons (.c (.tup (.cons (.c (.var 3)) .nil))) (.cons (.c (.tup (.cons (.c (.con (.int 1))) (.cons (.c (.con (.int 2))) (.cons (.c (.con (.int 0))) .nil))))) .nil))))) .nil)))))) (.cons (.forS (.c (.c (.var 5))) (.ts [6, 7, 8]) (.cons (.ifs (.op1 .not (.c (.call false 74 (.cons (.c (.call false 75 (.cons (.c (.var 6)) (.cons (.c (.op2 .add (.c (.var 7)) (.c (.tup (.cons (.c (.var 8)) .nil))))) .nil)))) (.cons (.c (.con (.bl true))) .nil))))) (.cons (.ret (.con (.bl false))) .nil) .nil) (.cons (.setOw 9 (.lst (.cons (.c (.op1 .list (.c (.var 8)))) (.cons (.c (.op2 .add (.c (.var 8)) (.c (.tup (.cons (.c (.con .non)) .nil))))) (.cons (.c (.op2 .add (.c (.var 8)) (.c (.tup (.cons (.c (.con (.str "So"))) .nil))))) (.cons (.c (.tup (.cons (.c (.var 8)) .nil))) (.cons (.c (.lst (.cons (.c (.var 8)) .nil))) (.cons (.c (.con .non)) .nil)))))))) (.cons (.forS (.rng1 (.op1 .len (.c (.var 8)))) (.n 10) (.cons (.forS (.c (.c (.tup (.cons (.c (.con (.str "So"))) (.cons (.c (.op1 .neg (.c (.con (.int 5))))) (.cons (.c (.lst (.cons (.c (.op2 .ix (.c (.var 8)) (.c (.var 10)))) .nil))) (.cons (.c (.tup (.cons (.c (.op2 .ix (.c (.var 8)) (.c (.var 10)))) (.cons (.c (.op2 .ix (.c (.var 8)) (.c (.var 10)))) (.cons (.c (.op2 .ix (.c (.var 8)) (.c (.var 10)))) .nil))))) .nil))))))) (.n 11) (.cons (.app 9 (.op2 .add (.c (.op2 .add (.c (.slice (.c (.var 8)) .no (.c (.var 10)))) (.c (.tup (.cons (.c (.var 11)) .nil))))) (.c (.slice (.c (.var 8)) (.c (.op2 .add (.c (.var 10)) (.c (.con (.int 1))))) .no)))) (.cons (.kill 11) .nil))) (.cons (.kill 10) (.cons (.kill 11) .nil)))) (.cons (.frz 9) (.cons (.forS (.c (.c (.callT true 73 1 (.cons (.b 9) (.cons (.c (.con (.int 8))) .nil))))) (.n 12) (.cons (.ifs (.op1 .not (.c (.call false 74 (.cons (.c (.call false 75 (.cons (.c (.var 6)) (.cons (.c (.op2 .add (.c (.var 7)) (.c (.tup (.cons (.c (.var 12)) .nil))))) .nil)))) (.cons (.c (.con (.bl false))) .nil))))) (.cons (.ret (.con (.bl false))) .nil) .nil) (.cons (.kill 12) .nil))) (.cons (.kill 6) (.cons (.kill 7) (.cons (.kill 8) (.cons (.kill 9) (.cons (.kill 10) (.cons (.kill 11) (.cons (.kill 12) .nil))))))))))))) (.cons (.set 13 (.lst (.cons (.c (.con .non)) (.cons (.c (.con (.bl true))) (.cons (.c (.con (.str ""))) (.cons (.c (.con (.str "So"))) (.cons (.c (.op1 .neg (.c (.con (.int 7))))) (.cons (.c (.op1 .neg (.c (.op2 .pow (.c (.con (.int 10))) (.c (.con (.int 60))))))) (.cons (.c (.lst .nil)) (.cons (.c (.lst (.cons (.c (.lst .nil)) .nil))) (.cons (.c (.tup (.cons (.c (.con .non)) .nil))) (.cons (.c (.tup (.cons (.c (.con (.str "so"))) (.cons (.c (.con (.int 1))) .nil)))) (.cons (.c (.tup (.cons (.c (.tup (.cons (.c (.con (.bl true))) .nil))) .nil))) (.cons (.c (.lst (.cons (.c (.tup (.cons (.c (.con (.int 1))) .nil))) .nil))) (.cons (.c (.tup (.cons (.c (.var 2)) (.cons (.c (.var 3)) .nil)))) (.cons (.c (.tup (.cons (.c (.con (.int 99))) (.cons (.c (.con (.int 99))) .nil)))) (.cons (.c (.tup (.cons (.c (.con (.str "a"))) (.cons (.c (.tup (.cons (.c (.con (.str "b"))) .nil))) .nil)))) .nil))))))))))))))))) (.cons (.set 14 (.tup .nil)) (.cons (.forS (.rng1 (.con (.int 12))) (.n 15) (.cons (.set 14 (.tup (.cons (.c (.var 14)) (.cons (.c (.var 15)) .nil)))) (.cons (.kill 15) .nil))) (.cons (.forS (.c (.c (.callT true 73 1 (.cons (.c (.var 5)) (.cons (.c (.con (.int 10))) .nil))))) (.ts [6, 7, 8]) (.cons (.forS (.c (.c (.op2 .add (.c (.var 13)) (.c (.lst (.cons (.c (.var 14)) .nil)))))) (.n 16) (.cons (.ifs (.op1 .not (.c (.call false 74 (.cons (.c (.call false 75 (.cons (.c (.var 6)) (.cons (.c (.op2 .add (.c (.var 7)) (.c (.tup (.cons (.c (.var 16)) .nil))))) .nil)))) (.cons (.c (.con (.bl false))) .nil))))) (.cons (.ret (.con (.bl false))) .nil) .nil) (.cons (.kill 16) .nil))) (.cons (.kill 6) (.cons (.kill 7) (.cons (.kill 8) (.cons (.kill 16) .nil)))))) (.cons (.ret (.con (.bl true))) .nil))))))))))))
def T : Nat → Option Df
  | 0 => some ⟨false, 1, 1, co_0⟩
  | 1 => some ⟨false, 3, 3, co_1⟩
  | 2 => some ⟨false, 2, 2, co_2⟩
  | 3 => some ⟨false, 3, 4, co_3⟩
  | 4 => some ⟨false, 1, 2, co_4⟩
  | 5 => some ⟨false, 3, 3, co_5⟩
  | 6 => some ⟨false, 2, 3, co_6⟩
  | 7 => some ⟨false, 2, 3, co_7⟩
  | 8 => some ⟨false, 2, 6, co_8⟩
  | 9 => some ⟨false, 1, 3, co_9⟩
  | 10 => some ⟨false, 2, 2, co_10⟩
  | 11 => some ⟨false, 1, 3, co_11⟩
  | 12 => some ⟨false, 1, 2, co_12⟩
  | 13 => some ⟨false, 3, 3, co_13⟩
  | 14 => some ⟨false, 2, 3, co_14⟩
  | 15 => some ⟨false, 3, 4, co_15⟩
  | 16 => some ⟨false, 3, 3, co_16⟩
  | 17 => some ⟨false, 3, 4, co_17⟩
  | 18 => some ⟨false, 2, 4, co_18⟩
  | 19 => some ⟨false, 3, 3, co_19⟩
  | 20 => some ⟨false, 2, 3, co_20⟩
  | 21 => some ⟨false, 2, 6, co_21⟩
  | 22 => some ⟨false, 1, 1, co_22⟩
  | 23 => some ⟨false, 3, 4, co_23⟩
  | 24 => some ⟨false, 2, 2, co_24⟩
  | 25 => some ⟨false, 2, 3, co_25⟩
  | 26 => some ⟨false, 2, 2, co_26⟩
  | 27 => some ⟨false, 3, 3, co_27⟩
  | 28 => some ⟨false, 3, 4, co_28⟩
  | 29 => some ⟨false, 1, 5, co_29⟩
  | 30 => some ⟨false, 2, 2, co_30⟩
  | 31 => some ⟨false, 3, 5, co_31⟩
  | 32 => some ⟨false, 2, 3, co_32⟩
  | 33 => some ⟨false, 2, 3, co_33⟩
  | 34 => some ⟨false, 3, 5, co_34⟩
  | 35 => some ⟨false, 3, 5, co_35⟩
  | 36 => some ⟨false, 2, 3, co_36⟩
  | 37 => some ⟨false, 1, 1, co_37⟩
  | 38 => some ⟨false, 1, 3, co_38⟩
  | 39 => some ⟨false, 2, 3, co_39⟩
  | 40 => some ⟨false, 2, 5, co_40⟩
  | 41 => some ⟨false, 1, 1, co_41⟩
  | 42 => some ⟨false, 1, 2, co_42⟩
  | 43 => some ⟨false, 3, 4, co_43⟩
  | 44 => some ⟨false, 3, 4, co_44⟩
  | 45 => some ⟨false, 3, 6, co_45⟩
  | 46 => some ⟨false, 3, 3, co_46⟩
  | 47 => some ⟨false, 2, 4, co_47⟩
  | 48 => some ⟨false, 1, 1, co_48⟩
  | 49 => some ⟨false, 3, 5, co_49⟩
  | 50 => some ⟨false, 4, 8, co_50⟩
  | 51 => some ⟨false, 3, 6, co_51⟩
  | 52 => some ⟨false, 1, 1, co_52⟩
  | 53 => some ⟨false, 1, 2, co_53⟩
  | 54 => some ⟨false, 4, 4, co_54⟩
  | 55 => some ⟨false, 3, 4, co_55⟩
  | 56 => some ⟨false, 3, 7, co_56⟩
  | 57 => some ⟨false, 3, 3, co_57⟩
  | 58 => some ⟨false, 1, 1, co_58⟩
  | 59 => some ⟨false, 3, 5, co_59⟩
  | 60 => some ⟨false, 4, 8, co_60⟩
  | 61 => some ⟨false, 2, 2, co_61⟩
  | 62 => some ⟨false, 2, 3, co_62⟩
  | 63 => some ⟨false, 2, 3, co_63⟩
  | 64 => some ⟨false, 2, 3, co_64⟩
  | 65 => some ⟨false, 3, 4, co_65⟩
  | 66 => some ⟨false, 3, 4, co_66⟩
  | 67 => some ⟨false, 2, 2, co_67⟩
  | 68 => some ⟨false, 3, 5, co_68⟩
  | 69 => some ⟨false, 3, 5, co_69⟩
  | 70 => some ⟨false, 2, 3, co_70⟩
  | 71 => some ⟨true, 1, 6, co_71⟩
  | 72 => some ⟨false, 2, 6, co_72⟩
  | 73 => some ⟨true, 2, 6, co_73⟩
  | 74 => some ⟨false, 2, 4, co_74⟩
  | 75 => some ⟨false, 2, 2, co_75⟩
  | 76 => some ⟨false, 1, 17, co_76⟩
  | _ => none
def frT : Nat → Bool
  | 9 => true
  | 29 => true
  | 37 => true
  | 45 => true
  | 46 => true
  | 56 => true
  | 57 => true
  | 70 => true
  | 72 => true
  | 73 => true
  | _ => false
abbrev gm (K : PySem.W.Frag) (fas cas : List Addr) : Gm := ⟨K, fun k => fas.getD k 0, fun k => cas.getD k 0, arOf T⟩
structure Mg (fas : List Addr) (mg : Str → Option Value) : Prop where
  b_abs : mg "abs" = none
  b_all : mg "all" = none
  b_bool : mg "bool" = none
  b_enumerate : mg "enumerate" = none
  b_int : mg "int" = none
  b_isinstance : mg "isinstance" = none
  b_len : mg "len" = none
  b_list : mg "list" = none
  b_max : mg "max" = none
  b_min : mg "min" = none
  b_range : mg "range" = none
  b_set : mg "set" = none
  b_str : mg "str" = none
  b_sum : mg "sum" = none
  b_tuple : mg "tuple" = none
  b_zip : mg "zip" = none
  k_MOST_GONE : ∃ t, mg "MOST_GONE" = some (.int 5000 t)
  k_MOST_LOTS : ∃ t, mg "MOST_LOTS" = some (.int 6 t)
  k_MOST_PLACES : ∃ t, mg "MOST_PLACES" = some (.int 12 t)
  k_MOST_SHARE : ∃ t, mg "MOST_SHARE" = some (.int 12 t)
  f_0 : mg "is_number" = some (.ref (fas.getD 0 0))
  f_1 : mg "is_within" = some (.ref (fas.getD 1 0))
  f_2 : mg "is_long" = some (.ref (fas.getD 2 0))
  f_3 : mg "are_within" = some (.ref (fas.getD 3 0))
  f_4 : mg "tupled" = some (.ref (fas.getD 4 0))
  f_5 : mg "sure_within" = some (.ref (fas.getD 5 0))
  f_6 : mg "is_set_below" = some (.ref (fas.getD 6 0))
  f_7 : mg "without" = some (.ref (fas.getD 7 0))
  f_8 : mg "sets_of_size" = some (.ref (fas.getD 8 0))
  f_9 : mg "all_sets" = some (.ref (fas.getD 9 0))
  f_10 : mg "is_pair_in" = some (.ref (fas.getD 10 0))
  f_11 : mg "is_web_in" = some (.ref (fas.getD 11 0))
  f_12 : mg "sure_web" = some (.ref (fas.getD 12 0))
  f_13 : mg "tied_in" = some (.ref (fas.getD 13 0))
  f_14 : mg "many_at" = some (.ref (fas.getD 14 0))
  f_15 : mg "within_in" = some (.ref (fas.getD 15 0))
  f_16 : mg "are_lots_in" = some (.ref (fas.getD 16 0))
  f_17 : mg "sure_lots" = some (.ref (fas.getD 17 0))
  f_18 : mg "lot_of" = some (.ref (fas.getD 18 0))
  f_19 : mg "own_in" = some (.ref (fas.getD 19 0))
  f_20 : mg "inside_in" = some (.ref (fas.getD 20 0))
  f_21 : mg "all_lots_in" = some (.ref (fas.getD 21 0))
  f_22 : mg "is_web" = some (.ref (fas.getD 22 0))
  f_23 : mg "are_lots" = some (.ref (fas.getD 23 0))
  f_24 : mg "are_wishes_in" = some (.ref (fas.getD 24 0))
  f_25 : mg "sure_wishes" = some (.ref (fas.getD 25 0))
  f_26 : mg "rest_of" = some (.ref (fas.getD 26 0))
  f_27 : mg "own_side" = some (.ref (fas.getD 27 0))
  f_28 : mg "meets_in" = some (.ref (fas.getD 28 0))
  f_29 : mg "rows_in" = some (.ref (fas.getD 29 0))
  f_30 : mg "are_wishes" = some (.ref (fas.getD 30 0))
  f_31 : mg "sides_met" = some (.ref (fas.getD 31 0))
  f_32 : mg "is_even_odd_in" = some (.ref (fas.getD 32 0))
  f_33 : mg "is_even_odd" = some (.ref (fas.getD 33 0))
  f_34 : mg "is_paper_in" = some (.ref (fas.getD 34 0))
  f_35 : mg "is_wish_paper" = some (.ref (fas.getD 35 0))
  f_36 : mg "across_in" = some (.ref (fas.getD 36 0))
  f_37 : mg "sets_without_first" = some (.ref (fas.getD 37 0))
  f_38 : mg "most_across" = some (.ref (fas.getD 38 0))
  f_39 : mg "is_best_across" = some (.ref (fas.getD 39 0))
  f_40 : mg "is_odd_round" = some (.ref (fas.getD 40 0))
  f_41 : mg "are_limits_in" = some (.ref (fas.getD 41 0))
  f_42 : mg "sure_limits" = some (.ref (fas.getD 42 0))
  f_43 : mg "keeps_in" = some (.ref (fas.getD 43 0))
  f_44 : mg "measure_in" = some (.ref (fas.getD 44 0))
  f_45 : mg "open_moves_in" = some (.ref (fas.getD 45 0))
  f_46 : mg "moved_in" = some (.ref (fas.getD 46 0))
  f_47 : mg "many_lots" = some (.ref (fas.getD 47 0))
  f_48 : mg "are_limits" = some (.ref (fas.getD 48 0))
  f_49 : mg "do_keep" = some (.ref (fas.getD 49 0))
  f_50 : mg "is_move_row" = some (.ref (fas.getD 50 0))
  f_51 : mg "is_least_measure" = some (.ref (fas.getD 51 0))
  f_52 : mg "are_shares_in" = some (.ref (fas.getD 52 0))
  f_53 : mg "sure_shares" = some (.ref (fas.getD 53 0))
  f_54 : mg "is_fair_at" = some (.ref (fas.getD 54 0))
  f_55 : mg "are_fair_in" = some (.ref (fas.getD 55 0))
  f_56 : mg "fair_moves_in" = some (.ref (fas.getD 56 0))
  f_57 : mg "put_in" = some (.ref (fas.getD 57 0))
  f_58 : mg "are_shares" = some (.ref (fas.getD 58 0))
  f_59 : mg "do_share" = some (.ref (fas.getD 59 0))
  f_60 : mg "is_share_row" = some (.ref (fas.getD 60 0))
  f_61 : mg "are_numbers_in" = some (.ref (fas.getD 61 0))
  f_62 : mg "are_wants_in" = some (.ref (fas.getD 62 0))
  f_63 : mg "sure_wants" = some (.ref (fas.getD 63 0))
  f_64 : mg "sure_numbers" = some (.ref (fas.getD 64 0))
  f_65 : mg "is_held_in" = some (.ref (fas.getD 65 0))
  f_66 : mg "is_half_in" = some (.ref (fas.getD 66 0))
  f_67 : mg "are_wants" = some (.ref (fas.getD 67 0))
  f_68 : mg "is_held" = some (.ref (fas.getD 68 0))
  f_69 : mg "is_half" = some (.ref (fas.getD 69 0))
  f_70 : mg "_law_box" = some (.ref (fas.getD 70 0))
  f_71 : mg "_law_take" = some (.ref (fas.getD 71 0))
  f_72 : mg "_law_cells" = some (.ref (fas.getD 72 0))
  f_73 : mg "_law_pick" = some (.ref (fas.getD 73 0))
  f_74 : mg "_law_same" = some (.ref (fas.getD 74 0))
  f_75 : mg "_law_call" = some (.ref (fas.getD 75 0))
  f_76 : mg "law" = some (.ref (fas.getD 76 0))
section
variable {P : Program} {w : World} {K : PySem.W.Frag} {mg : Str → Option Value} {base : Heap} {fas cas : List Addr} {Φ : Orc} {cdv : Value} {A : Around} {outer : List Env} {s : Shared} {H : Hp} {E : XK} {n : Nat}
theorem sc_0 : FnScope nm_0 ["thing"] (defScope st_0) := ⟨rfl, rfl, rfl, by decide +kernel, rfl, by decide +kernel, by decide +kernel⟩
theorem d_0 (G : Mg fas mg) (hr : Room n (A.deeper (envOfC "is_number" (defScope st_0) s.heap.objs.size (fas.getD 0 0) cdv))) (hE : HeldX Φ frT (gm K fas cas) (cxOf (L2.CX P w) P w K mg base nm_0 "is_number" (defScope st_0) (fas.getD 0 0) cdv A outer s H E)) : DSs Φ 4000 (gm K fas cas) (fun c d _ H => E c d H) (frT 0) false (cxOf (L2.CX P w) P w K mg base nm_0 "is_number" (defScope st_0) (fas.getD 0 0) cdv A outer s H E) (defBody st_0) co_0 :=
  have S := sc_0; have tk : L2.Takes (cxOf (L2.CX P w) P w K mg base nm_0 "is_number" (defScope st_0) (fas.getD 0 0) cdv A outer s H E) (fun c d _ H => E c d H) := takes_of rfl rfl rfl rfl; have hp := passes_of (X := (cxOf (L2.CX P w) P w K mg base nm_0 "is_number" (defScope st_0) (fas.getD 0 0) cdv A outer s H E)) rfl; (
    (dss_cons (ds_ret (de_and (de_isi "int" rfl (hmt := G.b_int) (hm := G.b_isinstance) (ha := (de_var 0))) (de_one (de_not (de_isi "bool" rfl (hmt := G.b_bool) (hm := G.b_isinstance) (ha := (de_var 0))))))) dss_nil))
theorem sc_1 : FnScope nm_1 ["thing", "least", "most"] (defScope st_1) := ⟨rfl, rfl, rfl, by decide +kernel, rfl, by decide +kernel, by decide +kernel⟩
theorem d_1 (G : Mg fas mg) (hr : Room n (A.deeper (envOfC "is_within" (defScope st_1) s.heap.objs.size (fas.getD 1 0) cdv))) (hE : HeldX Φ frT (gm K fas cas) (cxOf (L2.CX P w) P w K mg base nm_1 "is_within" (defScope st_1) (fas.getD 1 0) cdv A outer s H E)) : DSs Φ 4000 (gm K fas cas) (fun c d _ H => E c d H) (frT 1) false (cxOf (L2.CX P w) P w K mg base nm_1 "is_within" (defScope st_1) (fas.getD 1 0) cdv A outer s H E) (defBody st_1) co_1 :=
  have S := sc_1; have tk : L2.Takes (cxOf (L2.CX P w) P w K mg base nm_1 "is_within" (defScope st_1) (fas.getD 1 0) cdv A outer s H E) (fun c d _ H => E c d H) := takes_of rfl rfl rfl rfl; have hp := passes_of (X := (cxOf (L2.CX P w) P w K mg base nm_1 "is_within" (defScope st_1) (fas.getD 1 0) cdv A outer s H E)) rfl; (
    (dss_cons (ds_ret (de_and (de_call 0 hE tk (da_cons (de_var 0) da_nil) (hm := G.f_0)) (de_one (de_chain (p := .le) (p' := .le) (r_le rfl _) (r_le rfl _) (de_var 1) (de_var 0) (de_var 2))))) dss_nil))
theorem sc_2 : FnScope nm_2 ["thing", "length"] (defScope st_2) := ⟨rfl, rfl, rfl, by decide +kernel, rfl, by decide +kernel, by decide +kernel⟩
theorem d_2 (G : Mg fas mg) (hr : Room n (A.deeper (envOfC "is_long" (defScope st_2) s.heap.objs.size (fas.getD 2 0) cdv))) (hE : HeldX Φ frT (gm K fas cas) (cxOf (L2.CX P w) P w K mg base nm_2 "is_long" (defScope st_2) (fas.getD 2 0) cdv A outer s H E)) : DSs Φ 4000 (gm K fas cas) (fun c d _ H => E c d H) (frT 2) false (cxOf (L2.CX P w) P w K mg base nm_2 "is_long" (defScope st_2) (fas.getD 2 0) cdv A outer s H E) (defBody st_2) co_2 :=
  have S := sc_2; have tk : L2.Takes (cxOf (L2.CX P w) P w K mg base nm_2 "is_long" (defScope st_2) (fas.getD 2 0) cdv A outer s H E) (fun c d _ H => E c d H) := takes_of rfl rfl rfl rfl; have hp := passes_of (X := (cxOf (L2.CX P w) P w K mg base nm_2 "is_long" (defScope st_2) (fas.getD 2 0) cdv A outer s H E)) rfl; (
    (dss_cons (ds_ret (de_and (de_isi "tuple" rfl (hmt := G.b_tuple) (hm := G.b_isinstance) (ha := (de_var 0))) (de_one (de_cmp (p := .eq) (r_eq rfl _ hr.units) (de_b1 (p := .len) (c_len rfl _) G.b_len (bt_len) (de_var 0)) (de_var 1))))) dss_nil))
theorem sc_3 : FnScope nm_3 ["thing", "least", "most"] (defScope st_3) := ⟨rfl, rfl, rfl, by decide +kernel, rfl, by decide +kernel, by decide +kernel⟩
theorem d_3 (G : Mg fas mg) (hr : Room n (A.deeper (envOfC "are_within" (defScope st_3) s.heap.objs.size (fas.getD 3 0) cdv))) (hE : HeldX Φ frT (gm K fas cas) (cxOf (L2.CX P w) P w K mg base nm_3 "are_within" (defScope st_3) (fas.getD 3 0) cdv A outer s H E)) : DSs Φ 4000 (gm K fas cas) (fun c d _ H => E c d H) (frT 3) false (cxOf (L2.CX P w) P w K mg base nm_3 "are_within" (defScope st_3) (fas.getD 3 0) cdv A outer s H E) (defBody st_3) co_3 :=
  have S := sc_3; have tk : L2.Takes (cxOf (L2.CX P w) P w K mg base nm_3 "are_within" (defScope st_3) (fas.getD 3 0) cdv A outer s H E) (fun c d _ H => E c d H) := takes_of rfl rfl rfl rfl; have hp := passes_of (X := (cxOf (L2.CX P w) P w K mg base nm_3 "are_within" (defScope st_3) (fas.getD 3 0) cdv A outer s H E)) rfl; (
    (dss_cons (ds_ret (de_and (de_isi "tuple" rfl (hmt := G.b_tuple) (hm := G.b_isinstance) (ha := (de_var 0))) (de_one (de_b1 (p := .all) (c_all rfl _ rfl) G.b_all (bt_all) (de_comp (own := [("own", 3)]) rfl S.nd (di_c rfl (de_var 0)) (blkOk_by (by rfl)) (fun _ _ _ _ _ => (dtg_n 3 S.nd)) (fun _ _ _ _ _ => dts_nil) (fun _ _ _ _ _ => (de_call 1 hE takes0 (da_cons (de_var 3) (da_cons (de_var 1) (da_cons (de_var 2) da_nil))) (hm := G.f_1)))))))) dss_nil))
theorem sc_4 : FnScope nm_4 ["value"] (defScope st_4) := ⟨rfl, rfl, rfl, by decide +kernel, rfl, by decide +kernel, by decide +kernel⟩
theorem d_4 (G : Mg fas mg) (hr : Room n (A.deeper (envOfC "tupled" (defScope st_4) s.heap.objs.size (fas.getD 4 0) cdv))) (hE : HeldX Φ frT (gm K fas cas) (cxOf (L2.CX P w) P w K mg base nm_4 "tupled" (defScope st_4) (fas.getD 4 0) cdv A outer s H E)) : DSs Φ 4000 (gm K fas cas) (fun c d _ H => E c d H) (frT 4) false (cxOf (L2.CX P w) P w K mg base nm_4 "tupled" (defScope st_4) (fas.getD 4 0) cdv A outer s H E) (defBody st_4) co_4 :=
  have S := sc_4; have tk : L2.Takes (cxOf (L2.CX P w) P w K mg base nm_4 "tupled" (defScope st_4) (fas.getD 4 0) cdv A outer s H E) (fun c d _ H => E c d H) := takes_of rfl rfl rfl rfl; have hp := passes_of (X := (cxOf (L2.CX P w) P w K mg base nm_4 "tupled" (defScope st_4) (fas.getD 4 0) cdv A outer s H E)) rfl; (
    (dss_cons (ds_ret (de_ife (dt_of (de_isi2 "list" "tuple" rfl (hmt := G.b_list) (hmt2 := G.b_tuple) (hm := G.b_isinstance) (ha := (de_var 0)))) (de_t1 (p := .tuple) (c_tuple rfl _) G.b_tuple (bt_tuple) (de_comp (own := [("own", 1)]) rfl S.nd (di_c rfl (de_var 0)) (blkOk_by (by rfl)) (fun _ _ _ _ _ => (dtg_n 1 S.nd)) (fun _ _ _ _ _ => dts_nil) (fun _ _ _ _ _ => (de_call 4 hE takes0 (da_cons (de_var 1) da_nil) (hm := G.f_4))))) (de_var 0))) dss_nil))
theorem sc_5 : FnScope nm_5 ["thing", "least", "most"] (defScope st_5) := ⟨rfl, rfl, rfl, by decide +kernel, rfl, by decide +kernel, by decide +kernel⟩
theorem d_5 (G : Mg fas mg) (hr : Room n (A.deeper (envOfC "sure_within" (defScope st_5) s.heap.objs.size (fas.getD 5 0) cdv))) (hE : HeldX Φ frT (gm K fas cas) (cxOf (L2.CX P w) P w K mg base nm_5 "sure_within" (defScope st_5) (fas.getD 5 0) cdv A outer s H E)) : DSs Φ 4000 (gm K fas cas) (fun c d _ H => E c d H) (frT 5) false (cxOf (L2.CX P w) P w K mg base nm_5 "sure_within" (defScope st_5) (fas.getD 5 0) cdv A outer s H E) (defBody st_5) co_5 :=
  have S := sc_5; have tk : L2.Takes (cxOf (L2.CX P w) P w K mg base nm_5 "sure_within" (defScope st_5) (fas.getD 5 0) cdv A outer s H E) (fun c d _ H => E c d H) := takes_of rfl rfl rfl rfl; have hp := passes_of (X := (cxOf (L2.CX P w) P w K mg base nm_5 "sure_within" (defScope st_5) (fas.getD 5 0) cdv A outer s H E)) rfl; (
    (dss_cons (ds_if (dt_not (dt_of (de_call 1 hE tk (da_cons (de_var 0) (da_cons (de_var 1) (da_cons (de_var 2) da_nil))) (hm := G.f_1)))) (dss_cons ds_nev dss_nil) dss_nil) (dss_cons (ds_ret (de_var 0)) dss_nil)))
theorem sc_6 : FnScope nm_6 ["thing", "many"] (defScope st_6) := ⟨rfl, rfl, rfl, by decide +kernel, rfl, by decide +kernel, by decide +kernel⟩
theorem d_6 (G : Mg fas mg) (hr : Room n (A.deeper (envOfC "is_set_below" (defScope st_6) s.heap.objs.size (fas.getD 6 0) cdv))) (hE : HeldX Φ frT (gm K fas cas) (cxOf (L2.CX P w) P w K mg base nm_6 "is_set_below" (defScope st_6) (fas.getD 6 0) cdv A outer s H E)) : DSs Φ 4000 (gm K fas cas) (fun c d _ H => E c d H) (frT 6) false (cxOf (L2.CX P w) P w K mg base nm_6 "is_set_below" (defScope st_6) (fas.getD 6 0) cdv A outer s H E) (defBody st_6) co_6 :=
  have S := sc_6; have tk : L2.Takes (cxOf (L2.CX P w) P w K mg base nm_6 "is_set_below" (defScope st_6) (fas.getD 6 0) cdv A outer s H E) (fun c d _ H => E c d H) := takes_of rfl rfl rfl rfl; have hp := passes_of (X := (cxOf (L2.CX P w) P w K mg base nm_6 "is_set_below" (defScope st_6) (fas.getD 6 0) cdv A outer s H E)) rfl; (
    (dss_cons (ds_if (dt_not (dt_of (de_call 3 hE tk (da_cons (de_var 0) (da_cons de_int (da_cons (de_bin (p := .sub) (r_sub rfl _) (de_var 1) de_int) da_nil))) (hm := G.f_3)))) (dss_cons (ds_ret de_bl) dss_nil) dss_nil) (dss_cons (ds_ret (de_b1 (p := .all) (c_all rfl _ rfl) G.b_all (bt_all) (de_comp (own := [("k", 2)]) rfl S.nd (di_rng1 (de_bin (p := .sub) (r_sub rfl _) (de_b1 (p := .len) (c_len rfl _) G.b_len (bt_len) (de_var 0)) de_int) (hm := G.b_range)) (blkOk_by (by rfl)) (fun _ _ _ _ _ => (dtg_n 2 S.nd)) (fun _ _ _ _ _ => dts_nil) (fun _ _ _ _ _ => (de_cmp (p := .lt) (r_lt rfl _ hr.units0) (de_ix rfl (de_var 0) (de_var 2)) (de_ix rfl (de_var 0) (de_bin (p := .add) (r_add rfl _) (de_var 2) de_int))))))) dss_nil)))
theorem sc_7 : FnScope nm_7 ["some", "other"] (defScope st_7) := ⟨rfl, rfl, rfl, by decide +kernel, rfl, by decide +kernel, by decide +kernel⟩
theorem d_7 (G : Mg fas mg) (hr : Room n (A.deeper (envOfC "without" (defScope st_7) s.heap.objs.size (fas.getD 7 0) cdv))) (hE : HeldX Φ frT (gm K fas cas) (cxOf (L2.CX P w) P w K mg base nm_7 "without" (defScope st_7) (fas.getD 7 0) cdv A outer s H E)) : DSs Φ 4000 (gm K fas cas) (fun c d _ H => E c d H) (frT 7) false (cxOf (L2.CX P w) P w K mg base nm_7 "without" (defScope st_7) (fas.getD 7 0) cdv A outer s H E) (defBody st_7) co_7 :=
  have S := sc_7; have tk : L2.Takes (cxOf (L2.CX P w) P w K mg base nm_7 "without" (defScope st_7) (fas.getD 7 0) cdv A outer s H E) (fun c d _ H => E c d H) := takes_of rfl rfl rfl rfl; have hp := passes_of (X := (cxOf (L2.CX P w) P w K mg base nm_7 "without" (defScope st_7) (fas.getD 7 0) cdv A outer s H E)) rfl; (
    (dss_cons (ds_ret (de_t1 (p := .tuple) (c_tuple rfl _) G.b_tuple (bt_tuple) (de_comp (own := [("own", 2)]) rfl S.nd (di_c rfl (de_var 0)) (blkOk_by (by rfl)) (fun _ _ _ _ _ => (dtg_n 2 S.nd)) (fun _ _ _ _ _ => (dts_one (dt_cmp (p := .notin) (r_notin rfl _ (hu65 hr)) (de_var 2) (de_var 1)))) (fun _ _ _ _ _ => (de_var 2))))) dss_nil))
theorem sc_8 : FnScope nm_8 ["some", "size"] (defScope st_8) := ⟨rfl, rfl, rfl, by decide +kernel, rfl, by decide +kernel, by decide +kernel⟩
theorem d_8 (G : Mg fas mg) (hr : Room n (A.deeper (envOfC "sets_of_size" (defScope st_8) s.heap.objs.size (fas.getD 8 0) cdv))) (hE : HeldX Φ frT (gm K fas cas) (cxOf (L2.CX P w) P w K mg base nm_8 "sets_of_size" (defScope st_8) (fas.getD 8 0) cdv A outer s H E)) : DSs Φ 4000 (gm K fas cas) (fun c d _ H => E c d H) (frT 8) false (cxOf (L2.CX P w) P w K mg base nm_8 "sets_of_size" (defScope st_8) (fas.getD 8 0) cdv A outer s H E) (defBody st_8) co_8 :=
  have S := sc_8; have tk : L2.Takes (cxOf (L2.CX P w) P w K mg base nm_8 "sets_of_size" (defScope st_8) (fas.getD 8 0) cdv A outer s H E) (fun c d _ H => E c d H) := takes_of rfl rfl rfl rfl; have hp := passes_of (X := (cxOf (L2.CX P w) P w K mg base nm_8 "sets_of_size" (defScope st_8) (fas.getD 8 0) cdv A outer s H E)) rfl; (
    (dss_cons (ds_set 2 S.nd (de_lst (da_cons (de_tup da_nil) da_nil))) (dss_cons (ds_for hp rfl (di_rng1 (de_var 1) (hm := G.b_range)) (dtg_n 3 S.nd) (dss_cons (ds_setLc2 2 false (own := [("own", 4), ("its", 5)]) rfl S.nd (di_c rfl (de_var 2)) (blkOk_by (by rfl)) (fun _ _ _ _ _ => (dtg_n 4 S.nd)) (fun _ _ _ _ _ => dts_nil) (fun _ _ _ _ _ => (di_c rfl (de_var 0))) (fun _ _ _ _ _ => (dtg_n 5 S.nd)) (fun _ _ _ _ _ => (dts_one (dt_w (dw_or (dt_cmp (p := .eq) (r_eq rfl _ hr.units) (de_var 4) (de_tup da_nil)) (dt_one (dt_cmp (p := .gt) (r_gt rfl _) (de_var 5) (de_ix rfl (de_var 4) (de_un (p := .neg) (c_neg rfl _) de_int)))))))) (fun _ _ _ _ _ => (de_bin (p := .add) (r_add rfl _) (de_var 4) (de_tup (da_cons (de_var 5) da_nil))))) (dss_kill 3 dss_nil))) (dss_cons (ds_ret (de_var 2)) dss_nil))))
theorem sc_9 : FnScope nm_9 ["some"] (defScope st_9) := ⟨rfl, rfl, rfl, by decide +kernel, rfl, by decide +kernel, by decide +kernel⟩
theorem d_9 (G : Mg fas mg) (hr : Room n (A.deeper (envOfC "all_sets" (defScope st_9) s.heap.objs.size (fas.getD 9 0) cdv))) (hE : HeldX Φ frT (gm K fas cas) (cxOf (L2.CX P w) P w K mg base nm_9 "all_sets" (defScope st_9) (fas.getD 9 0) cdv A outer s H E)) : DSs Φ 4000 (gm K fas cas) (fun c d _ H => E c d H) (frT 9) false (cxOf (L2.CX P w) P w K mg base nm_9 "all_sets" (defScope st_9) (fas.getD 9 0) cdv A outer s H E) (defBody st_9) co_9 :=
  have S := sc_9; have tk : L2.Takes (cxOf (L2.CX P w) P w K mg base nm_9 "all_sets" (defScope st_9) (fas.getD 9 0) cdv A outer s H E) (fun c d _ H => E c d H) := takes_of rfl rfl rfl rfl; have hp := passes_of (X := (cxOf (L2.CX P w) P w K mg base nm_9 "all_sets" (defScope st_9) (fas.getD 9 0) cdv A outer s H E)) rfl; (
    (dss_cons (ds_setOw 1 S.nd (de_lst da_nil)) (dss_cons (ds_for hp rfl (di_rng1 (de_bin (p := .add) (r_add rfl _) (de_b1 (p := .len) (c_len rfl _) G.b_len (bt_len) (de_var 0)) de_int) (hm := G.b_range)) (dtg_n 2 S.nd) (dss_cons (ds_ext 1 (de_call 8 hE tk (da_cons (de_var 0) (da_cons (de_var 2) da_nil)) (hm := G.f_8))) (dss_kill 2 dss_nil))) (dss_cons (ds_retOw 1) dss_nil))))
theorem sc_10 : FnScope nm_10 ["thing", "many"] (defScope st_10) := ⟨rfl, rfl, rfl, by decide +kernel, rfl, by decide +kernel, by decide +kernel⟩
theorem d_10 (G : Mg fas mg) (hr : Room n (A.deeper (envOfC "is_pair_in" (defScope st_10) s.heap.objs.size (fas.getD 10 0) cdv))) (hE : HeldX Φ frT (gm K fas cas) (cxOf (L2.CX P w) P w K mg base nm_10 "is_pair_in" (defScope st_10) (fas.getD 10 0) cdv A outer s H E)) : DSs Φ 4000 (gm K fas cas) (fun c d _ H => E c d H) (frT 10) false (cxOf (L2.CX P w) P w K mg base nm_10 "is_pair_in" (defScope st_10) (fas.getD 10 0) cdv A outer s H E) (defBody st_10) co_10 :=
  have S := sc_10; have tk : L2.Takes (cxOf (L2.CX P w) P w K mg base nm_10 "is_pair_in" (defScope st_10) (fas.getD 10 0) cdv A outer s H E) (fun c d _ H => E c d H) := takes_of rfl rfl rfl rfl; have hp := passes_of (X := (cxOf (L2.CX P w) P w K mg base nm_10 "is_pair_in" (defScope st_10) (fas.getD 10 0) cdv A outer s H E)) rfl; (
    (dss_cons (ds_ret (de_and (de_call 2 hE tk (da_cons (de_var 0) (da_cons de_int da_nil)) (hm := G.f_2)) (de_one (de_call 6 hE tk (da_cons (de_var 0) (da_cons (de_var 1) da_nil)) (hm := G.f_6))))) dss_nil))
theorem sc_11 : FnScope nm_11 ["thing"] (defScope st_11) := ⟨rfl, rfl, rfl, by decide +kernel, rfl, by decide +kernel, by decide +kernel⟩
theorem d_11 (G : Mg fas mg) (hr : Room n (A.deeper (envOfC "is_web_in" (defScope st_11) s.heap.objs.size (fas.getD 11 0) cdv))) (hE : HeldX Φ frT (gm K fas cas) (cxOf (L2.CX P w) P w K mg base nm_11 "is_web_in" (defScope st_11) (fas.getD 11 0) cdv A outer s H E)) : DSs Φ 4000 (gm K fas cas) (fun c d _ H => E c d H) (frT 11) false (cxOf (L2.CX P w) P w K mg base nm_11 "is_web_in" (defScope st_11) (fas.getD 11 0) cdv A outer s H E) (defBody st_11) co_11 :=
  have S := sc_11; have tk : L2.Takes (cxOf (L2.CX P w) P w K mg base nm_11 "is_web_in" (defScope st_11) (fas.getD 11 0) cdv A outer s H E) (fun c d _ H => E c d H) := takes_of rfl rfl rfl rfl; have hp := passes_of (X := (cxOf (L2.CX P w) P w K mg base nm_11 "is_web_in" (defScope st_11) (fas.getD 11 0) cdv A outer s H E)) rfl; (
    (dss_cons (ds_if (dt_w (dw_or (dt_not (dt_of (de_call 2 hE tk (da_cons (de_var 0) (da_cons de_int da_nil)) (hm := G.f_2)))) (dw_or (dt_not (dt_of (de_call 1 hE tk (da_cons (de_ix rfl (de_var 0) de_int) (da_cons de_int (da_cons (de_gintE G.k_MOST_PLACES) da_nil))) (hm := G.f_1)))) (dt_one (dt_not (dt_of (de_isi "tuple" rfl (hmt := G.b_tuple) (hm := G.b_isinstance) (ha := (de_ix rfl (de_var 0) de_int))))))))) (dss_cons (ds_ret de_bl) dss_nil) dss_nil) (dss_cons (ds_if (dt_not (dt_of (de_b1 (p := .all) (c_all rfl _ rfl) G.b_all (bt_all) (de_comp (own := [("own", 2)]) rfl S.nd (di_c rfl (de_ix rfl (de_var 0) de_int)) (blkOk_by (by rfl)) (fun _ _ _ _ _ => (dtg_n 2 S.nd)) (fun _ _ _ _ _ => dts_nil) (fun _ _ _ _ _ => (de_call 10 hE takes0 (da_cons (de_var 2) (da_cons (de_ix rfl (de_var 0) de_int) da_nil)) (hm := G.f_10))))))) (dss_cons (ds_ret de_bl) dss_nil) dss_nil) (dss_cons (ds_ret (de_b1 (p := .all) (c_all rfl _ rfl) G.b_all (bt_all) (de_comp (own := [("k", 1)]) rfl S.nd (di_rng1 (de_bin (p := .sub) (r_sub rfl _) (de_b1 (p := .len) (c_len rfl _) G.b_len (bt_len) (de_ix rfl (de_var 0) de_int)) de_int) (hm := G.b_range)) (blkOk_by (by rfl)) (fun _ _ _ _ _ => (dtg_n 1 S.nd)) (fun _ _ _ _ _ => dts_nil) (fun _ _ _ _ _ => (de_cmp (p := .lt) (r_lt rfl _ hr.units0) (de_ix rfl (de_ix rfl (de_var 0) de_int) (de_var 1)) (de_ix rfl (de_ix rfl (de_var 0) de_int) (de_bin (p := .add) (r_add rfl _) (de_var 1) de_int))))))) dss_nil))))
theorem sc_12 : FnScope nm_12 ["value"] (defScope st_12) := ⟨rfl, rfl, rfl, by decide +kernel, rfl, by decide +kernel, by decide +kernel⟩
theorem d_12 (G : Mg fas mg) (hr : Room n (A.deeper (envOfC "sure_web" (defScope st_12) s.heap.objs.size (fas.getD 12 0) cdv))) (hE : HeldX Φ frT (gm K fas cas) (cxOf (L2.CX P w) P w K mg base nm_12 "sure_web" (defScope st_12) (fas.getD 12 0) cdv A outer s H E)) : DSs Φ 4000 (gm K fas cas) (fun c d _ H => E c d H) (frT 12) false (cxOf (L2.CX P w) P w K mg base nm_12 "sure_web" (defScope st_12) (fas.getD 12 0) cdv A outer s H E) (defBody st_12) co_12 :=
  have S := sc_12; have tk : L2.Takes (cxOf (L2.CX P w) P w K mg base nm_12 "sure_web" (defScope st_12) (fas.getD 12 0) cdv A outer s H E) (fun c d _ H => E c d H) := takes_of rfl rfl rfl rfl; have hp := passes_of (X := (cxOf (L2.CX P w) P w K mg base nm_12 "sure_web" (defScope st_12) (fas.getD 12 0) cdv A outer s H E)) rfl; (
    (dss_cons (ds_set 1 S.nd (de_call 4 hE tk (da_cons (de_var 0) da_nil) (hm := G.f_4))) (dss_cons (ds_if (dt_not (dt_of (de_call 11 hE tk (da_cons (de_var 1) da_nil) (hm := G.f_11)))) (dss_cons ds_nev dss_nil) dss_nil) (dss_cons (ds_ret (de_var 1)) dss_nil))))
theorem sc_13 : FnScope nm_13 ["web", "one", "other"] (defScope st_13) := ⟨rfl, rfl, rfl, by decide +kernel, rfl, by decide +kernel, by decide +kernel⟩
theorem d_13 (G : Mg fas mg) (hr : Room n (A.deeper (envOfC "tied_in" (defScope st_13) s.heap.objs.size (fas.getD 13 0) cdv))) (hE : HeldX Φ frT (gm K fas cas) (cxOf (L2.CX P w) P w K mg base nm_13 "tied_in" (defScope st_13) (fas.getD 13 0) cdv A outer s H E)) : DSs Φ 4000 (gm K fas cas) (fun c d _ H => E c d H) (frT 13) false (cxOf (L2.CX P w) P w K mg base nm_13 "tied_in" (defScope st_13) (fas.getD 13 0) cdv A outer s H E) (defBody st_13) co_13 :=
  have S := sc_13; have tk : L2.Takes (cxOf (L2.CX P w) P w K mg base nm_13 "tied_in" (defScope st_13) (fas.getD 13 0) cdv A outer s H E) (fun c d _ H => E c d H) := takes_of rfl rfl rfl rfl; have hp := passes_of (X := (cxOf (L2.CX P w) P w K mg base nm_13 "tied_in" (defScope st_13) (fas.getD 13 0) cdv A outer s H E)) rfl; (
    (dss_cons (ds_ret (de_cmp (p := .isin) (r_in rfl _ (hu65 hr)) (de_ife (dt_cmp (p := .lt) (r_lt rfl _ hr.units0) (de_var 1) (de_var 2)) (de_tup (da_cons (de_var 1) (da_cons (de_var 2) da_nil))) (de_tup (da_cons (de_var 2) (da_cons (de_var 1) da_nil)))) (de_ix rfl (de_var 0) de_int))) dss_nil))
theorem sc_14 : FnScope nm_14 ["web", "place"] (defScope st_14) := ⟨rfl, rfl, rfl, by decide +kernel, rfl, by decide +kernel, by decide +kernel⟩
theorem d_14 (G : Mg fas mg) (hr : Room n (A.deeper (envOfC "many_at" (defScope st_14) s.heap.objs.size (fas.getD 14 0) cdv))) (hE : HeldX Φ frT (gm K fas cas) (cxOf (L2.CX P w) P w K mg base nm_14 "many_at" (defScope st_14) (fas.getD 14 0) cdv A outer s H E)) : DSs Φ 4000 (gm K fas cas) (fun c d _ H => E c d H) (frT 14) false (cxOf (L2.CX P w) P w K mg base nm_14 "many_at" (defScope st_14) (fas.getD 14 0) cdv A outer s H E) (defBody st_14) co_14 :=
  have S := sc_14; have tk : L2.Takes (cxOf (L2.CX P w) P w K mg base nm_14 "many_at" (defScope st_14) (fas.getD 14 0) cdv A outer s H E) (fun c d _ H => E c d H) := takes_of rfl rfl rfl rfl; have hp := passes_of (X := (cxOf (L2.CX P w) P w K mg base nm_14 "many_at" (defScope st_14) (fas.getD 14 0) cdv A outer s H E)) rfl; (
    (dss_cons (ds_ret (de_b1 (p := .len) (c_len rfl _) G.b_len (bt_len) (de_comp (own := [("tie", 2)]) rfl S.nd (di_c rfl (de_ix rfl (de_var 0) de_int)) (blkOk_by (by rfl)) (fun _ _ _ _ _ => (dtg_n 2 S.nd)) (fun _ _ _ _ _ => (dts_one (dt_cmp (p := .isin) (r_in rfl _ (hu65 hr)) (de_var 1) (de_var 2)))) (fun _ _ _ _ _ => de_int)))) dss_nil))
theorem sc_15 : FnScope nm_15 ["web", "place", "some"] (defScope st_15) := ⟨rfl, rfl, rfl, by decide +kernel, rfl, by decide +kernel, by decide +kernel⟩
theorem d_15 (G : Mg fas mg) (hr : Room n (A.deeper (envOfC "within_in" (defScope st_15) s.heap.objs.size (fas.getD 15 0) cdv))) (hE : HeldX Φ frT (gm K fas cas) (cxOf (L2.CX P w) P w K mg base nm_15 "within_in" (defScope st_15) (fas.getD 15 0) cdv A outer s H E)) : DSs Φ 4000 (gm K fas cas) (fun c d _ H => E c d H) (frT 15) false (cxOf (L2.CX P w) P w K mg base nm_15 "within_in" (defScope st_15) (fas.getD 15 0) cdv A outer s H E) (defBody st_15) co_15 :=
  have S := sc_15; have tk : L2.Takes (cxOf (L2.CX P w) P w K mg base nm_15 "within_in" (defScope st_15) (fas.getD 15 0) cdv A outer s H E) (fun c d _ H => E c d H) := takes_of rfl rfl rfl rfl; have hp := passes_of (X := (cxOf (L2.CX P w) P w K mg base nm_15 "within_in" (defScope st_15) (fas.getD 15 0) cdv A outer s H E)) rfl; (
    (dss_cons (ds_ret (de_b1 (p := .len) (c_len rfl _) G.b_len (bt_len) (de_comp (own := [("own", 3)]) rfl S.nd (di_c rfl (de_var 2)) (blkOk_by (by rfl)) (fun _ _ _ _ _ => (dtg_n 3 S.nd)) (fun _ _ _ _ _ => (dts_one (dt_w (dw_and (dt_cmp (p := .ne) (r_ne rfl _ hr.units) (de_var 3) (de_var 1)) (dt_one (dt_of (de_call 13 hE takes0 (da_cons (de_var 0) (da_cons (de_var 1) (da_cons (de_var 3) da_nil))) (hm := G.f_13)))))))) (fun _ _ _ _ _ => de_int)))) dss_nil))
theorem sc_16 : FnScope nm_16 ["web", "many", "thing"] (defScope st_16) := ⟨rfl, rfl, rfl, by decide +kernel, rfl, by decide +kernel, by decide +kernel⟩
theorem d_16 (G : Mg fas mg) (hr : Room n (A.deeper (envOfC "are_lots_in" (defScope st_16) s.heap.objs.size (fas.getD 16 0) cdv))) (hE : HeldX Φ frT (gm K fas cas) (cxOf (L2.CX P w) P w K mg base nm_16 "are_lots_in" (defScope st_16) (fas.getD 16 0) cdv A outer s H E)) : DSs Φ 4000 (gm K fas cas) (fun c d _ H => E c d H) (frT 16) false (cxOf (L2.CX P w) P w K mg base nm_16 "are_lots_in" (defScope st_16) (fas.getD 16 0) cdv A outer s H E) (defBody st_16) co_16 :=
  have S := sc_16; have tk : L2.Takes (cxOf (L2.CX P w) P w K mg base nm_16 "are_lots_in" (defScope st_16) (fas.getD 16 0) cdv A outer s H E) (fun c d _ H => E c d H) := takes_of rfl rfl rfl rfl; have hp := passes_of (X := (cxOf (L2.CX P w) P w K mg base nm_16 "are_lots_in" (defScope st_16) (fas.getD 16 0) cdv A outer s H E)) rfl; (
    (dss_cons (ds_ret (de_and (de_call 3 hE tk (da_cons (de_var 2) (da_cons de_int (da_cons (de_bin (p := .sub) (r_sub rfl _) (de_var 1) de_int) da_nil))) (hm := G.f_3)) (de_one (de_cmp (p := .eq) (r_eq rfl _ hr.units) (de_b1 (p := .len) (c_len rfl _) G.b_len (bt_len) (de_var 2)) (de_ix rfl (de_var 0) de_int))))) dss_nil))
theorem sc_17 : FnScope nm_17 ["web", "many", "value"] (defScope st_17) := ⟨rfl, rfl, rfl, by decide +kernel, rfl, by decide +kernel, by decide +kernel⟩
theorem d_17 (G : Mg fas mg) (hr : Room n (A.deeper (envOfC "sure_lots" (defScope st_17) s.heap.objs.size (fas.getD 17 0) cdv))) (hE : HeldX Φ frT (gm K fas cas) (cxOf (L2.CX P w) P w K mg base nm_17 "sure_lots" (defScope st_17) (fas.getD 17 0) cdv A outer s H E)) : DSs Φ 4000 (gm K fas cas) (fun c d _ H => E c d H) (frT 17) false (cxOf (L2.CX P w) P w K mg base nm_17 "sure_lots" (defScope st_17) (fas.getD 17 0) cdv A outer s H E) (defBody st_17) co_17 :=
  have S := sc_17; have tk : L2.Takes (cxOf (L2.CX P w) P w K mg base nm_17 "sure_lots" (defScope st_17) (fas.getD 17 0) cdv A outer s H E) (fun c d _ H => E c d H) := takes_of rfl rfl rfl rfl; have hp := passes_of (X := (cxOf (L2.CX P w) P w K mg base nm_17 "sure_lots" (defScope st_17) (fas.getD 17 0) cdv A outer s H E)) rfl; (
    (dss_cons (ds_set 3 S.nd (de_call 4 hE tk (da_cons (de_var 2) da_nil) (hm := G.f_4))) (dss_cons (ds_if (dt_not (dt_of (de_call 16 hE tk (da_cons (de_var 0) (da_cons (de_var 1) (da_cons (de_var 3) da_nil))) (hm := G.f_16)))) (dss_cons ds_nev dss_nil) dss_nil) (dss_cons (ds_ret (de_var 3)) dss_nil))))
theorem sc_18 : FnScope nm_18 ["lots", "number"] (defScope st_18) := ⟨rfl, rfl, rfl, by decide +kernel, rfl, by decide +kernel, by decide +kernel⟩
theorem d_18 (G : Mg fas mg) (hr : Room n (A.deeper (envOfC "lot_of" (defScope st_18) s.heap.objs.size (fas.getD 18 0) cdv))) (hE : HeldX Φ frT (gm K fas cas) (cxOf (L2.CX P w) P w K mg base nm_18 "lot_of" (defScope st_18) (fas.getD 18 0) cdv A outer s H E)) : DSs Φ 4000 (gm K fas cas) (fun c d _ H => E c d H) (frT 18) false (cxOf (L2.CX P w) P w K mg base nm_18 "lot_of" (defScope st_18) (fas.getD 18 0) cdv A outer s H E) (defBody st_18) co_18 :=
  have S := sc_18; have tk : L2.Takes (cxOf (L2.CX P w) P w K mg base nm_18 "lot_of" (defScope st_18) (fas.getD 18 0) cdv A outer s H E) (fun c d _ H => E c d H) := takes_of rfl rfl rfl rfl; have hp := passes_of (X := (cxOf (L2.CX P w) P w K mg base nm_18 "lot_of" (defScope st_18) (fas.getD 18 0) cdv A outer s H E)) rfl; (
    (dss_cons (ds_ret (de_t1 (p := .tuple) (c_tuple rfl _) G.b_tuple (bt_tuple) (de_comp (own := [("place", 2), ("own", 3)]) rfl S.nd (di_enum (de_var 0) (hm := G.b_enumerate)) (blkOk_by (by rfl)) (fun _ _ _ _ _ => (dtg_ts rfl rfl (dtgs_cons 2 (dtgs_cons 3 dtgs_nil S.nd) S.nd))) (fun _ _ _ _ _ => (dts_one (dt_cmp (p := .eq) (r_eq rfl _ hr.units) (de_var 3) (de_var 1)))) (fun _ _ _ _ _ => (de_var 2))))) dss_nil))
theorem sc_19 : FnScope nm_19 ["web", "lots", "place"] (defScope st_19) := ⟨rfl, rfl, rfl, by decide +kernel, rfl, by decide +kernel, by decide +kernel⟩
theorem d_19 (G : Mg fas mg) (hr : Room n (A.deeper (envOfC "own_in" (defScope st_19) s.heap.objs.size (fas.getD 19 0) cdv))) (hE : HeldX Φ frT (gm K fas cas) (cxOf (L2.CX P w) P w K mg base nm_19 "own_in" (defScope st_19) (fas.getD 19 0) cdv A outer s H E)) : DSs Φ 4000 (gm K fas cas) (fun c d _ H => E c d H) (frT 19) false (cxOf (L2.CX P w) P w K mg base nm_19 "own_in" (defScope st_19) (fas.getD 19 0) cdv A outer s H E) (defBody st_19) co_19 :=
  have S := sc_19; have tk : L2.Takes (cxOf (L2.CX P w) P w K mg base nm_19 "own_in" (defScope st_19) (fas.getD 19 0) cdv A outer s H E) (fun c d _ H => E c d H) := takes_of rfl rfl rfl rfl; have hp := passes_of (X := (cxOf (L2.CX P w) P w K mg base nm_19 "own_in" (defScope st_19) (fas.getD 19 0) cdv A outer s H E)) rfl; (
    (dss_cons (ds_ret (de_call 15 hE tk (da_cons (de_var 0) (da_cons (de_var 2) (da_cons (de_call 18 hE tk (da_cons (de_var 1) (da_cons (de_ix rfl (de_var 1) (de_var 2)) da_nil)) (hm := G.f_18)) da_nil))) (hm := G.f_15))) dss_nil))
theorem sc_20 : FnScope nm_20 ["web", "lots"] (defScope st_20) := ⟨rfl, rfl, rfl, by decide +kernel, rfl, by decide +kernel, by decide +kernel⟩
theorem d_20 (G : Mg fas mg) (hr : Room n (A.deeper (envOfC "inside_in" (defScope st_20) s.heap.objs.size (fas.getD 20 0) cdv))) (hE : HeldX Φ frT (gm K fas cas) (cxOf (L2.CX P w) P w K mg base nm_20 "inside_in" (defScope st_20) (fas.getD 20 0) cdv A outer s H E)) : DSs Φ 4000 (gm K fas cas) (fun c d _ H => E c d H) (frT 20) false (cxOf (L2.CX P w) P w K mg base nm_20 "inside_in" (defScope st_20) (fas.getD 20 0) cdv A outer s H E) (defBody st_20) co_20 :=
  have S := sc_20; have tk : L2.Takes (cxOf (L2.CX P w) P w K mg base nm_20 "inside_in" (defScope st_20) (fas.getD 20 0) cdv A outer s H E) (fun c d _ H => E c d H) := takes_of rfl rfl rfl rfl; have hp := passes_of (X := (cxOf (L2.CX P w) P w K mg base nm_20 "inside_in" (defScope st_20) (fas.getD 20 0) cdv A outer s H E)) rfl; (
    (dss_cons (ds_ret (de_t1 (p := .tuple) (c_tuple rfl _) G.b_tuple (bt_tuple) (de_comp (own := [("tie", 2)]) rfl S.nd (di_c rfl (de_ix rfl (de_var 0) de_int)) (blkOk_by (by rfl)) (fun _ _ _ _ _ => (dtg_n 2 S.nd)) (fun _ _ _ _ _ => (dts_one (dt_cmp (p := .eq) (r_eq rfl _ hr.units) (de_ix rfl (de_var 1) (de_ix rfl (de_var 2) de_int)) (de_ix rfl (de_var 1) (de_ix rfl (de_var 2) de_int))))) (fun _ _ _ _ _ => (de_var 2))))) dss_nil))
theorem sc_21 : FnScope nm_21 ["web", "many"] (defScope st_21) := ⟨rfl, rfl, rfl, by decide +kernel, rfl, by decide +kernel, by decide +kernel⟩
theorem d_21 (G : Mg fas mg) (hr : Room n (A.deeper (envOfC "all_lots_in" (defScope st_21) s.heap.objs.size (fas.getD 21 0) cdv))) (hE : HeldX Φ frT (gm K fas cas) (cxOf (L2.CX P w) P w K mg base nm_21 "all_lots_in" (defScope st_21) (fas.getD 21 0) cdv A outer s H E)) : DSs Φ 4000 (gm K fas cas) (fun c d _ H => E c d H) (frT 21) false (cxOf (L2.CX P w) P w K mg base nm_21 "all_lots_in" (defScope st_21) (fas.getD 21 0) cdv A outer s H E) (defBody st_21) co_21 :=
  have S := sc_21; have tk : L2.Takes (cxOf (L2.CX P w) P w K mg base nm_21 "all_lots_in" (defScope st_21) (fas.getD 21 0) cdv A outer s H E) (fun c d _ H => E c d H) := takes_of rfl rfl rfl rfl; have hp := passes_of (X := (cxOf (L2.CX P w) P w K mg base nm_21 "all_lots_in" (defScope st_21) (fas.getD 21 0) cdv A outer s H E)) rfl; (
    (dss_cons (ds_set 2 S.nd (de_lst (da_cons (de_tup da_nil) da_nil))) (dss_cons (ds_for hp rfl (di_rng1 (de_ix rfl (de_var 0) de_int) (hm := G.b_range)) (dtg_n 3 S.nd) (dss_cons (ds_setLc2 2 false (own := [("own", 4), ("lot", 5)]) rfl S.nd (di_c rfl (de_var 2)) (blkOk_by (by rfl)) (fun _ _ _ _ _ => (dtg_n 4 S.nd)) (fun _ _ _ _ _ => dts_nil) (fun _ _ _ _ _ => (di_rng1 (de_var 1) (hm := G.b_range))) (fun _ _ _ _ _ => (dtg_n 5 S.nd)) (fun _ _ _ _ _ => dts_nil) (fun _ _ _ _ _ => (de_bin (p := .add) (r_add rfl _) (de_var 4) (de_tup (da_cons (de_var 5) da_nil))))) (dss_kill 3 dss_nil))) (dss_cons (ds_ret (de_var 2)) dss_nil))))
theorem sc_22 : FnScope nm_22 ["thing"] (defScope st_22) := ⟨rfl, rfl, rfl, by decide +kernel, rfl, by decide +kernel, by decide +kernel⟩
theorem d_22 (G : Mg fas mg) (hr : Room n (A.deeper (envOfC "is_web" (defScope st_22) s.heap.objs.size (fas.getD 22 0) cdv))) (hE : HeldX Φ frT (gm K fas cas) (cxOf (L2.CX P w) P w K mg base nm_22 "is_web" (defScope st_22) (fas.getD 22 0) cdv A outer s H E)) : DSs Φ 4000 (gm K fas cas) (fun c d _ H => E c d H) (frT 22) false (cxOf (L2.CX P w) P w K mg base nm_22 "is_web" (defScope st_22) (fas.getD 22 0) cdv A outer s H E) (defBody st_22) co_22 :=
  have S := sc_22; have tk : L2.Takes (cxOf (L2.CX P w) P w K mg base nm_22 "is_web" (defScope st_22) (fas.getD 22 0) cdv A outer s H E) (fun c d _ H => E c d H) := takes_of rfl rfl rfl rfl; have hp := passes_of (X := (cxOf (L2.CX P w) P w K mg base nm_22 "is_web" (defScope st_22) (fas.getD 22 0) cdv A outer s H E)) rfl; (
    (dss_cons (ds_ret (de_call 11 hE tk (da_cons (de_var 0) da_nil) (hm := G.f_11))) dss_nil))
theorem sc_23 : FnScope nm_23 ["web", "many", "thing"] (defScope st_23) := ⟨rfl, rfl, rfl, by decide +kernel, rfl, by decide +kernel, by decide +kernel⟩
theorem d_23 (G : Mg fas mg) (hr : Room n (A.deeper (envOfC "are_lots" (defScope st_23) s.heap.objs.size (fas.getD 23 0) cdv))) (hE : HeldX Φ frT (gm K fas cas) (cxOf (L2.CX P w) P w K mg base nm_23 "are_lots" (defScope st_23) (fas.getD 23 0) cdv A outer s H E)) : DSs Φ 4000 (gm K fas cas) (fun c d _ H => E c d H) (frT 23) false (cxOf (L2.CX P w) P w K mg base nm_23 "are_lots" (defScope st_23) (fas.getD 23 0) cdv A outer s H E) (defBody st_23) co_23 :=
  have S := sc_23; have tk : L2.Takes (cxOf (L2.CX P w) P w K mg base nm_23 "are_lots" (defScope st_23) (fas.getD 23 0) cdv A outer s H E) (fun c d _ H => E c d H) := takes_of rfl rfl rfl rfl; have hp := passes_of (X := (cxOf (L2.CX P w) P w K mg base nm_23 "are_lots" (defScope st_23) (fas.getD 23 0) cdv A outer s H E)) rfl; (
    (dss_cons (ds_set 3 S.nd (de_call 12 hE tk (da_cons (de_var 0) da_nil) (hm := G.f_12))) (dss_cons (ds_ret (de_call 16 hE tk (da_cons (de_var 3) (da_cons (de_call 5 hE tk (da_cons (de_var 1) (da_cons de_int (da_cons (de_gintE G.k_MOST_LOTS) da_nil))) (hm := G.f_5)) (da_cons (de_var 2) da_nil))) (hm := G.f_16))) dss_nil)))
theorem sc_24 : FnScope nm_24 ["web", "thing"] (defScope st_24) := ⟨rfl, rfl, rfl, by decide +kernel, rfl, by decide +kernel, by decide +kernel⟩
theorem d_24 (G : Mg fas mg) (hr : Room n (A.deeper (envOfC "are_wishes_in" (defScope st_24) s.heap.objs.size (fas.getD 24 0) cdv))) (hE : HeldX Φ frT (gm K fas cas) (cxOf (L2.CX P w) P w K mg base nm_24 "are_wishes_in" (defScope st_24) (fas.getD 24 0) cdv A outer s H E)) : DSs Φ 4000 (gm K fas cas) (fun c d _ H => E c d H) (frT 24) false (cxOf (L2.CX P w) P w K mg base nm_24 "are_wishes_in" (defScope st_24) (fas.getD 24 0) cdv A outer s H E) (defBody st_24) co_24 :=
  have S := sc_24; have tk : L2.Takes (cxOf (L2.CX P w) P w K mg base nm_24 "are_wishes_in" (defScope st_24) (fas.getD 24 0) cdv A outer s H E) (fun c d _ H => E c d H) := takes_of rfl rfl rfl rfl; have hp := passes_of (X := (cxOf (L2.CX P w) P w K mg base nm_24 "are_wishes_in" (defScope st_24) (fas.getD 24 0) cdv A outer s H E)) rfl; (
    (dss_cons (ds_ret (de_and (de_call 3 hE tk (da_cons (de_var 1) (da_cons de_int (da_cons de_int da_nil))) (hm := G.f_3)) (de_one (de_cmp (p := .eq) (r_eq rfl _ hr.units) (de_b1 (p := .len) (c_len rfl _) G.b_len (bt_len) (de_var 1)) (de_ix rfl (de_var 0) de_int))))) dss_nil))
theorem sc_25 : FnScope nm_25 ["web", "value"] (defScope st_25) := ⟨rfl, rfl, rfl, by decide +kernel, rfl, by decide +kernel, by decide +kernel⟩
theorem d_25 (G : Mg fas mg) (hr : Room n (A.deeper (envOfC "sure_wishes" (defScope st_25) s.heap.objs.size (fas.getD 25 0) cdv))) (hE : HeldX Φ frT (gm K fas cas) (cxOf (L2.CX P w) P w K mg base nm_25 "sure_wishes" (defScope st_25) (fas.getD 25 0) cdv A outer s H E)) : DSs Φ 4000 (gm K fas cas) (fun c d _ H => E c d H) (frT 25) false (cxOf (L2.CX P w) P w K mg base nm_25 "sure_wishes" (defScope st_25) (fas.getD 25 0) cdv A outer s H E) (defBody st_25) co_25 :=
  have S := sc_25; have tk : L2.Takes (cxOf (L2.CX P w) P w K mg base nm_25 "sure_wishes" (defScope st_25) (fas.getD 25 0) cdv A outer s H E) (fun c d _ H => E c d H) := takes_of rfl rfl rfl rfl; have hp := passes_of (X := (cxOf (L2.CX P w) P w K mg base nm_25 "sure_wishes" (defScope st_25) (fas.getD 25 0) cdv A outer s H E)) rfl; (
    (dss_cons (ds_set 2 S.nd (de_call 4 hE tk (da_cons (de_var 1) da_nil) (hm := G.f_4))) (dss_cons (ds_if (dt_not (dt_of (de_call 24 hE tk (da_cons (de_var 0) (da_cons (de_var 2) da_nil)) (hm := G.f_24)))) (dss_cons ds_nev dss_nil) dss_nil) (dss_cons (ds_ret (de_var 2)) dss_nil))))
theorem sc_26 : FnScope nm_26 ["web", "some"] (defScope st_26) := ⟨rfl, rfl, rfl, by decide +kernel, rfl, by decide +kernel, by decide +kernel⟩
theorem d_26 (G : Mg fas mg) (hr : Room n (A.deeper (envOfC "rest_of" (defScope st_26) s.heap.objs.size (fas.getD 26 0) cdv))) (hE : HeldX Φ frT (gm K fas cas) (cxOf (L2.CX P w) P w K mg base nm_26 "rest_of" (defScope st_26) (fas.getD 26 0) cdv A outer s H E)) : DSs Φ 4000 (gm K fas cas) (fun c d _ H => E c d H) (frT 26) false (cxOf (L2.CX P w) P w K mg base nm_26 "rest_of" (defScope st_26) (fas.getD 26 0) cdv A outer s H E) (defBody st_26) co_26 :=
  have S := sc_26; have tk : L2.Takes (cxOf (L2.CX P w) P w K mg base nm_26 "rest_of" (defScope st_26) (fas.getD 26 0) cdv A outer s H E) (fun c d _ H => E c d H) := takes_of rfl rfl rfl rfl; have hp := passes_of (X := (cxOf (L2.CX P w) P w K mg base nm_26 "rest_of" (defScope st_26) (fas.getD 26 0) cdv A outer s H E)) rfl; (
    (dss_cons (ds_ret (de_call 7 hE tk (da_cons (de_t1 (p := .tuple) (c_tuple rfl _) G.b_tuple (bt_tuple) (de_listR1 rfl (de_ix rfl (de_var 0) de_int) (hm := G.b_list) (hm2 := G.b_range))) (da_cons (de_var 1) da_nil)) (hm := G.f_7))) dss_nil))
theorem sc_27 : FnScope nm_27 ["web", "some", "place"] (defScope st_27) := ⟨rfl, rfl, rfl, by decide +kernel, rfl, by decide +kernel, by decide +kernel⟩
theorem d_27 (G : Mg fas mg) (hr : Room n (A.deeper (envOfC "own_side" (defScope st_27) s.heap.objs.size (fas.getD 27 0) cdv))) (hE : HeldX Φ frT (gm K fas cas) (cxOf (L2.CX P w) P w K mg base nm_27 "own_side" (defScope st_27) (fas.getD 27 0) cdv A outer s H E)) : DSs Φ 4000 (gm K fas cas) (fun c d _ H => E c d H) (frT 27) false (cxOf (L2.CX P w) P w K mg base nm_27 "own_side" (defScope st_27) (fas.getD 27 0) cdv A outer s H E) (defBody st_27) co_27 :=
  have S := sc_27; have tk : L2.Takes (cxOf (L2.CX P w) P w K mg base nm_27 "own_side" (defScope st_27) (fas.getD 27 0) cdv A outer s H E) (fun c d _ H => E c d H) := takes_of rfl rfl rfl rfl; have hp := passes_of (X := (cxOf (L2.CX P w) P w K mg base nm_27 "own_side" (defScope st_27) (fas.getD 27 0) cdv A outer s H E)) rfl; (
    (dss_cons (ds_ret (de_call 15 hE tk (da_cons (de_var 0) (da_cons (de_var 2) (da_cons (de_ife (dt_cmp (p := .isin) (r_in rfl _ (hu65 hr)) (de_var 2) (de_var 1)) (de_var 1) (de_call 26 hE tk (da_cons (de_var 0) (da_cons (de_var 1) da_nil)) (hm := G.f_26))) da_nil))) (hm := G.f_15))) dss_nil))
theorem sc_28 : FnScope nm_28 ["web", "wishes", "some"] (defScope st_28) := ⟨rfl, rfl, rfl, by decide +kernel, rfl, by decide +kernel, by decide +kernel⟩
theorem d_28 (G : Mg fas mg) (hr : Room n (A.deeper (envOfC "meets_in" (defScope st_28) s.heap.objs.size (fas.getD 28 0) cdv))) (hE : HeldX Φ frT (gm K fas cas) (cxOf (L2.CX P w) P w K mg base nm_28 "meets_in" (defScope st_28) (fas.getD 28 0) cdv A outer s H E)) : DSs Φ 4000 (gm K fas cas) (fun c d _ H => E c d H) (frT 28) false (cxOf (L2.CX P w) P w K mg base nm_28 "meets_in" (defScope st_28) (fas.getD 28 0) cdv A outer s H E) (defBody st_28) co_28 :=
  have S := sc_28; have tk : L2.Takes (cxOf (L2.CX P w) P w K mg base nm_28 "meets_in" (defScope st_28) (fas.getD 28 0) cdv A outer s H E) (fun c d _ H => E c d H) := takes_of rfl rfl rfl rfl; have hp := passes_of (X := (cxOf (L2.CX P w) P w K mg base nm_28 "meets_in" (defScope st_28) (fas.getD 28 0) cdv A outer s H E)) rfl; (
    (dss_cons (ds_ret (de_b1 (p := .all) (c_all rfl _ rfl) G.b_all (bt_all) (de_comp (own := [("place", 3)]) rfl S.nd (di_rng1 (de_ix rfl (de_var 0) de_int) (hm := G.b_range)) (blkOk_by (by rfl)) (fun _ _ _ _ _ => (dtg_n 3 S.nd)) (fun _ _ _ _ _ => dts_nil) (fun _ _ _ _ _ => (de_cmp (p := .eq) (r_eq rfl _ hr.units) (de_bin (p := .mod) (r_mod rfl _) (de_call 27 hE takes0 (da_cons (de_var 0) (da_cons (de_var 2) (da_cons (de_var 3) da_nil))) (hm := G.f_27)) de_int) (de_ix rfl (de_var 1) (de_var 3))))))) dss_nil))
theorem sc_29 : FnScope nm_29 ["web"] (defScope st_29) := ⟨rfl, rfl, rfl, by decide +kernel, rfl, by decide +kernel, by decide +kernel⟩
theorem d_29 (G : Mg fas mg) (hr : Room n (A.deeper (envOfC "rows_in" (defScope st_29) s.heap.objs.size (fas.getD 29 0) cdv))) (hE : HeldX Φ frT (gm K fas cas) (cxOf (L2.CX P w) P w K mg base nm_29 "rows_in" (defScope st_29) (fas.getD 29 0) cdv A outer s H E)) : DSs Φ 4000 (gm K fas cas) (fun c d _ H => E c d H) (frT 29) false (cxOf (L2.CX P w) P w K mg base nm_29 "rows_in" (defScope st_29) (fas.getD 29 0) cdv A outer s H E) (defBody st_29) co_29 :=
  have S := sc_29; have tk : L2.Takes (cxOf (L2.CX P w) P w K mg base nm_29 "rows_in" (defScope st_29) (fas.getD 29 0) cdv A outer s H E) (fun c d _ H => E c d H) := takes_of rfl rfl rfl rfl; have hp := passes_of (X := (cxOf (L2.CX P w) P w K mg base nm_29 "rows_in" (defScope st_29) (fas.getD 29 0) cdv A outer s H E)) rfl; (
    (dss_cons (ds_setOw 1 S.nd (de_lst da_nil)) (dss_cons (ds_for hp rfl (di_rng1 (de_ix rfl (de_var 0) de_int) (hm := G.b_range)) (dtg_n 2 S.nd) (dss_cons (ds_setLc 3 true (own := [("other", 4)]) rfl S.nd (di_rng1 (de_ix rfl (de_var 0) de_int) (hm := G.b_range)) (blkOk_by (by rfl)) (fun _ _ _ _ _ => (dtg_n 4 S.nd)) (fun _ _ _ _ _ => dts_nil) (fun _ _ _ _ _ => (de_ife (dt_w (dw_and (dt_cmp (p := .ne) (r_ne rfl _ hr.units) (de_var 4) (de_var 2)) (dt_one (dt_of (de_call 13 hE takes0 (da_cons (de_var 0) (da_cons (de_var 2) (da_cons (de_var 4) da_nil))) (hm := G.f_13)))))) de_int de_int))) (dss_cons (ds_subset 3 (de_bin (p := .mod) (r_mod rfl _) (de_call 14 hE tk (da_cons (de_var 0) (da_cons (de_var 2) da_nil)) (hm := G.f_14)) de_int) (de_var 2)) (dss_frz 3 (dss_cons (ds_app 1 (de_var 3)) (dss_kill 2 (dss_kill 3 dss_nil))))))) (dss_cons (ds_retOw 1) dss_nil))))
theorem sc_30 : FnScope nm_30 ["web", "thing"] (defScope st_30) := ⟨rfl, rfl, rfl, by decide +kernel, rfl, by decide +kernel, by decide +kernel⟩
theorem d_30 (G : Mg fas mg) (hr : Room n (A.deeper (envOfC "are_wishes" (defScope st_30) s.heap.objs.size (fas.getD 30 0) cdv))) (hE : HeldX Φ frT (gm K fas cas) (cxOf (L2.CX P w) P w K mg base nm_30 "are_wishes" (defScope st_30) (fas.getD 30 0) cdv A outer s H E)) : DSs Φ 4000 (gm K fas cas) (fun c d _ H => E c d H) (frT 30) false (cxOf (L2.CX P w) P w K mg base nm_30 "are_wishes" (defScope st_30) (fas.getD 30 0) cdv A outer s H E) (defBody st_30) co_30 :=
  have S := sc_30; have tk : L2.Takes (cxOf (L2.CX P w) P w K mg base nm_30 "are_wishes" (defScope st_30) (fas.getD 30 0) cdv A outer s H E) (fun c d _ H => E c d H) := takes_of rfl rfl rfl rfl; have hp := passes_of (X := (cxOf (L2.CX P w) P w K mg base nm_30 "are_wishes" (defScope st_30) (fas.getD 30 0) cdv A outer s H E)) rfl; (
    (dss_cons (ds_ret (de_call 24 hE tk (da_cons (de_call 12 hE tk (da_cons (de_var 0) da_nil) (hm := G.f_12)) (da_cons (de_var 1) da_nil)) (hm := G.f_24))) dss_nil))
theorem sc_31 : FnScope nm_31 ["web", "wishes", "thing"] (defScope st_31) := ⟨rfl, rfl, rfl, by decide +kernel, rfl, by decide +kernel, by decide +kernel⟩
theorem d_31 (G : Mg fas mg) (hr : Room n (A.deeper (envOfC "sides_met" (defScope st_31) s.heap.objs.size (fas.getD 31 0) cdv))) (hE : HeldX Φ frT (gm K fas cas) (cxOf (L2.CX P w) P w K mg base nm_31 "sides_met" (defScope st_31) (fas.getD 31 0) cdv A outer s H E)) : DSs Φ 4000 (gm K fas cas) (fun c d _ H => E c d H) (frT 31) false (cxOf (L2.CX P w) P w K mg base nm_31 "sides_met" (defScope st_31) (fas.getD 31 0) cdv A outer s H E) (defBody st_31) co_31 :=
  have S := sc_31; have tk : L2.Takes (cxOf (L2.CX P w) P w K mg base nm_31 "sides_met" (defScope st_31) (fas.getD 31 0) cdv A outer s H E) (fun c d _ H => E c d H) := takes_of rfl rfl rfl rfl; have hp := passes_of (X := (cxOf (L2.CX P w) P w K mg base nm_31 "sides_met" (defScope st_31) (fas.getD 31 0) cdv A outer s H E)) rfl; (
    (dss_cons (ds_set 3 S.nd (de_call 12 hE tk (da_cons (de_var 0) da_nil) (hm := G.f_12))) (dss_cons (ds_set 4 S.nd (de_call 25 hE tk (da_cons (de_var 3) (da_cons (de_var 1) da_nil)) (hm := G.f_25))) (dss_cons (ds_ret (de_and (de_call 6 hE tk (da_cons (de_var 2) (da_cons (de_ix rfl (de_var 3) de_int) da_nil)) (hm := G.f_6)) (de_one (de_call 28 hE tk (da_cons (de_var 3) (da_cons (de_var 4) (da_cons (de_var 2) da_nil))) (hm := G.f_28))))) dss_nil))))
theorem sc_32 : FnScope nm_32 ["web", "some"] (defScope st_32) := ⟨rfl, rfl, rfl, by decide +kernel, rfl, by decide +kernel, by decide +kernel⟩
theorem d_32 (G : Mg fas mg) (hr : Room n (A.deeper (envOfC "is_even_odd_in" (defScope st_32) s.heap.objs.size (fas.getD 32 0) cdv))) (hE : HeldX Φ frT (gm K fas cas) (cxOf (L2.CX P w) P w K mg base nm_32 "is_even_odd_in" (defScope st_32) (fas.getD 32 0) cdv A outer s H E)) : DSs Φ 4000 (gm K fas cas) (fun c d _ H => E c d H) (frT 32) false (cxOf (L2.CX P w) P w K mg base nm_32 "is_even_odd_in" (defScope st_32) (fas.getD 32 0) cdv A outer s H E) (defBody st_32) co_32 :=
  have S := sc_32; have tk : L2.Takes (cxOf (L2.CX P w) P w K mg base nm_32 "is_even_odd_in" (defScope st_32) (fas.getD 32 0) cdv A outer s H E) (fun c d _ H => E c d H) := takes_of rfl rfl rfl rfl; have hp := passes_of (X := (cxOf (L2.CX P w) P w K mg base nm_32 "is_even_odd_in" (defScope st_32) (fas.getD 32 0) cdv A outer s H E)) rfl; (
    (dss_cons (ds_ret (de_b1 (p := .all) (c_all rfl _ rfl) G.b_all (bt_all) (de_comp (own := [("place", 2)]) rfl S.nd (di_rng1 (de_ix rfl (de_var 0) de_int) (hm := G.b_range)) (blkOk_by (by rfl)) (fun _ _ _ _ _ => (dtg_n 2 S.nd)) (fun _ _ _ _ _ => dts_nil) (fun _ _ _ _ _ => (de_cmp (p := .eq) (r_eq rfl _ hr.units) (de_bin (p := .mod) (r_mod rfl _) (de_call 27 hE takes0 (da_cons (de_var 0) (da_cons (de_var 1) (da_cons (de_var 2) da_nil))) (hm := G.f_27)) de_int) (de_ife (dt_cmp (p := .isin) (r_in rfl _ (hu65 hr)) (de_var 2) (de_var 1)) de_int de_int)))))) dss_nil))
theorem sc_33 : FnScope nm_33 ["web", "thing"] (defScope st_33) := ⟨rfl, rfl, rfl, by decide +kernel, rfl, by decide +kernel, by decide +kernel⟩
theorem d_33 (G : Mg fas mg) (hr : Room n (A.deeper (envOfC "is_even_odd" (defScope st_33) s.heap.objs.size (fas.getD 33 0) cdv))) (hE : HeldX Φ frT (gm K fas cas) (cxOf (L2.CX P w) P w K mg base nm_33 "is_even_odd" (defScope st_33) (fas.getD 33 0) cdv A outer s H E)) : DSs Φ 4000 (gm K fas cas) (fun c d _ H => E c d H) (frT 33) false (cxOf (L2.CX P w) P w K mg base nm_33 "is_even_odd" (defScope st_33) (fas.getD 33 0) cdv A outer s H E) (defBody st_33) co_33 :=
  have S := sc_33; have tk : L2.Takes (cxOf (L2.CX P w) P w K mg base nm_33 "is_even_odd" (defScope st_33) (fas.getD 33 0) cdv A outer s H E) (fun c d _ H => E c d H) := takes_of rfl rfl rfl rfl; have hp := passes_of (X := (cxOf (L2.CX P w) P w K mg base nm_33 "is_even_odd" (defScope st_33) (fas.getD 33 0) cdv A outer s H E)) rfl; (
    (dss_cons (ds_set 2 S.nd (de_call 12 hE tk (da_cons (de_var 0) da_nil) (hm := G.f_12))) (dss_cons (ds_ret (de_and (de_call 6 hE tk (da_cons (de_var 1) (da_cons (de_ix rfl (de_var 2) de_int) da_nil)) (hm := G.f_6)) (de_one (de_call 32 hE tk (da_cons (de_var 2) (da_cons (de_var 1) da_nil)) (hm := G.f_32))))) dss_nil)))
theorem sc_34 : FnScope nm_34 ["web", "wishes", "some"] (defScope st_34) := ⟨rfl, rfl, rfl, by decide +kernel, rfl, by decide +kernel, by decide +kernel⟩
theorem d_34 (G : Mg fas mg) (hr : Room n (A.deeper (envOfC "is_paper_in" (defScope st_34) s.heap.objs.size (fas.getD 34 0) cdv))) (hE : HeldX Φ frT (gm K fas cas) (cxOf (L2.CX P w) P w K mg base nm_34 "is_paper_in" (defScope st_34) (fas.getD 34 0) cdv A outer s H E)) : DSs Φ 4000 (gm K fas cas) (fun c d _ H => E c d H) (frT 34) false (cxOf (L2.CX P w) P w K mg base nm_34 "is_paper_in" (defScope st_34) (fas.getD 34 0) cdv A outer s H E) (defBody st_34) co_34 :=
  have S := sc_34; have tk : L2.Takes (cxOf (L2.CX P w) P w K mg base nm_34 "is_paper_in" (defScope st_34) (fas.getD 34 0) cdv A outer s H E) (fun c d _ H => E c d H) := takes_of rfl rfl rfl rfl; have hp := passes_of (X := (cxOf (L2.CX P w) P w K mg base nm_34 "is_paper_in" (defScope st_34) (fas.getD 34 0) cdv A outer s H E)) rfl; (
    (dss_cons (ds_for hp rfl (di_c rfl (de_call 29 hE tk (da_cons (de_var 0) da_nil) (hm := G.f_29))) (dtg_n 3 S.nd) (dss_cons (ds_if (dt_cmp (p := .ne) (r_ne rfl _ hr.units) (de_bin (p := .mod) (r_mod rfl _) (de_b1 (p := .sum) (c_sum rfl _ rfl) G.b_sum (bt_sum) (de_comp (own := [("place", 4)]) rfl S.nd (di_c rfl (de_var 2)) (blkOk_by (by rfl)) (fun _ _ _ _ _ => (dtg_n 4 S.nd)) (fun _ _ _ _ _ => dts_nil) (fun _ _ _ _ _ => (de_ix rfl (de_var 3) (de_var 4))))) de_int) de_int) (dss_cons (ds_ret de_bl) dss_nil) dss_nil) (dss_kill 3 dss_nil))) (dss_cons (ds_ret (de_cmp (p := .eq) (r_eq rfl _ hr.units) (de_bin (p := .mod) (r_mod rfl _) (de_b1 (p := .sum) (c_sum rfl _ rfl) G.b_sum (bt_sum) (de_comp (own := [("place", 4)]) rfl S.nd (di_c rfl (de_var 2)) (blkOk_by (by rfl)) (fun _ _ _ _ _ => (dtg_n 4 S.nd)) (fun _ _ _ _ _ => dts_nil) (fun _ _ _ _ _ => (de_ix rfl (de_var 1) (de_var 4))))) de_int) de_int)) dss_nil)))
theorem sc_35 : FnScope nm_35 ["web", "wishes", "thing"] (defScope st_35) := ⟨rfl, rfl, rfl, by decide +kernel, rfl, by decide +kernel, by decide +kernel⟩
theorem d_35 (G : Mg fas mg) (hr : Room n (A.deeper (envOfC "is_wish_paper" (defScope st_35) s.heap.objs.size (fas.getD 35 0) cdv))) (hE : HeldX Φ frT (gm K fas cas) (cxOf (L2.CX P w) P w K mg base nm_35 "is_wish_paper" (defScope st_35) (fas.getD 35 0) cdv A outer s H E)) : DSs Φ 4000 (gm K fas cas) (fun c d _ H => E c d H) (frT 35) false (cxOf (L2.CX P w) P w K mg base nm_35 "is_wish_paper" (defScope st_35) (fas.getD 35 0) cdv A outer s H E) (defBody st_35) co_35 :=
  have S := sc_35; have tk : L2.Takes (cxOf (L2.CX P w) P w K mg base nm_35 "is_wish_paper" (defScope st_35) (fas.getD 35 0) cdv A outer s H E) (fun c d _ H => E c d H) := takes_of rfl rfl rfl rfl; have hp := passes_of (X := (cxOf (L2.CX P w) P w K mg base nm_35 "is_wish_paper" (defScope st_35) (fas.getD 35 0) cdv A outer s H E)) rfl; (
    (dss_cons (ds_set 3 S.nd (de_call 12 hE tk (da_cons (de_var 0) da_nil) (hm := G.f_12))) (dss_cons (ds_set 4 S.nd (de_call 25 hE tk (da_cons (de_var 3) (da_cons (de_var 1) da_nil)) (hm := G.f_25))) (dss_cons (ds_ret (de_and (de_call 6 hE tk (da_cons (de_var 2) (da_cons (de_ix rfl (de_var 3) de_int) da_nil)) (hm := G.f_6)) (de_one (de_call 34 hE tk (da_cons (de_var 3) (da_cons (de_var 4) (da_cons (de_var 2) da_nil))) (hm := G.f_34))))) dss_nil))))
theorem sc_36 : FnScope nm_36 ["web", "some"] (defScope st_36) := ⟨rfl, rfl, rfl, by decide +kernel, rfl, by decide +kernel, by decide +kernel⟩
theorem d_36 (G : Mg fas mg) (hr : Room n (A.deeper (envOfC "across_in" (defScope st_36) s.heap.objs.size (fas.getD 36 0) cdv))) (hE : HeldX Φ frT (gm K fas cas) (cxOf (L2.CX P w) P w K mg base nm_36 "across_in" (defScope st_36) (fas.getD 36 0) cdv A outer s H E)) : DSs Φ 4000 (gm K fas cas) (fun c d _ H => E c d H) (frT 36) false (cxOf (L2.CX P w) P w K mg base nm_36 "across_in" (defScope st_36) (fas.getD 36 0) cdv A outer s H E) (defBody st_36) co_36 :=
  have S := sc_36; have tk : L2.Takes (cxOf (L2.CX P w) P w K mg base nm_36 "across_in" (defScope st_36) (fas.getD 36 0) cdv A outer s H E) (fun c d _ H => E c d H) := takes_of rfl rfl rfl rfl; have hp := passes_of (X := (cxOf (L2.CX P w) P w K mg base nm_36 "across_in" (defScope st_36) (fas.getD 36 0) cdv A outer s H E)) rfl; (
    (dss_cons (ds_ret (de_b1 (p := .len) (c_len rfl _) G.b_len (bt_len) (de_comp (own := [("tie", 2)]) rfl S.nd (di_c rfl (de_ix rfl (de_var 0) de_int)) (blkOk_by (by rfl)) (fun _ _ _ _ _ => (dtg_n 2 S.nd)) (fun _ _ _ _ _ => (dts_one (dt_cmp (p := .ne) (r_ne rfl _ hr.units) (de_cmp (p := .isin) (r_in rfl _ (hu65 hr)) (de_ix rfl (de_var 2) de_int) (de_var 1)) (de_cmp (p := .isin) (r_in rfl _ (hu65 hr)) (de_ix rfl (de_var 2) de_int) (de_var 1))))) (fun _ _ _ _ _ => de_int)))) dss_nil))
theorem sc_37 : FnScope nm_37 ["web"] (defScope st_37) := ⟨rfl, rfl, rfl, by decide +kernel, rfl, by decide +kernel, by decide +kernel⟩
theorem d_37 (G : Mg fas mg) (hr : Room n (A.deeper (envOfC "sets_without_first" (defScope st_37) s.heap.objs.size (fas.getD 37 0) cdv))) (hE : HeldX Φ frT (gm K fas cas) (cxOf (L2.CX P w) P w K mg base nm_37 "sets_without_first" (defScope st_37) (fas.getD 37 0) cdv A outer s H E)) : DSs Φ 4000 (gm K fas cas) (fun c d _ H => E c d H) (frT 37) false (cxOf (L2.CX P w) P w K mg base nm_37 "sets_without_first" (defScope st_37) (fas.getD 37 0) cdv A outer s H E) (defBody st_37) co_37 :=
  have S := sc_37; have tk : L2.Takes (cxOf (L2.CX P w) P w K mg base nm_37 "sets_without_first" (defScope st_37) (fas.getD 37 0) cdv A outer s H E) (fun c d _ H => E c d H) := takes_of rfl rfl rfl rfl; have hp := passes_of (X := (cxOf (L2.CX P w) P w K mg base nm_37 "sets_without_first" (defScope st_37) (fas.getD 37 0) cdv A outer s H E)) rfl; (
    (dss_cons (ds_ret (de_call 9 hE tk (da_cons (de_listR2 rfl de_int (de_ix rfl (de_var 0) de_int) (hm := G.b_list) (hm2 := G.b_range)) da_nil) (hm := G.f_9))) dss_nil))
theorem sc_38 : FnScope nm_38 ["web"] (defScope st_38) := ⟨rfl, rfl, rfl, by decide +kernel, rfl, by decide +kernel, by decide +kernel⟩
theorem d_38 (G : Mg fas mg) (hr : Room n (A.deeper (envOfC "most_across" (defScope st_38) s.heap.objs.size (fas.getD 38 0) cdv))) (hE : HeldX Φ frT (gm K fas cas) (cxOf (L2.CX P w) P w K mg base nm_38 "most_across" (defScope st_38) (fas.getD 38 0) cdv A outer s H E)) : DSs Φ 4000 (gm K fas cas) (fun c d _ H => E c d H) (frT 38) false (cxOf (L2.CX P w) P w K mg base nm_38 "most_across" (defScope st_38) (fas.getD 38 0) cdv A outer s H E) (defBody st_38) co_38 :=
  have S := sc_38; have tk : L2.Takes (cxOf (L2.CX P w) P w K mg base nm_38 "most_across" (defScope st_38) (fas.getD 38 0) cdv A outer s H E) (fun c d _ H => E c d H) := takes_of rfl rfl rfl rfl; have hp := passes_of (X := (cxOf (L2.CX P w) P w K mg base nm_38 "most_across" (defScope st_38) (fas.getD 38 0) cdv A outer s H E)) rfl; (
    (dss_cons (ds_set 1 S.nd (de_call 12 hE tk (da_cons (de_var 0) da_nil) (hm := G.f_12))) (dss_cons (ds_ret (de_b1 (p := .max) (c_max rfl _ rfl) G.b_max (bt_max) (de_comp (own := [("some", 2)]) rfl S.nd (di_c rfl (de_call 37 hE tk (da_cons (de_var 1) da_nil) (hm := G.f_37))) (blkOk_by (by rfl)) (fun _ _ _ _ _ => (dtg_n 2 S.nd)) (fun _ _ _ _ _ => dts_nil) (fun _ _ _ _ _ => (de_call 36 hE takes0 (da_cons (de_var 1) (da_cons (de_var 2) da_nil)) (hm := G.f_36)))))) dss_nil)))
theorem sc_39 : FnScope nm_39 ["web", "thing"] (defScope st_39) := ⟨rfl, rfl, rfl, by decide +kernel, rfl, by decide +kernel, by decide +kernel⟩
theorem d_39 (G : Mg fas mg) (hr : Room n (A.deeper (envOfC "is_best_across" (defScope st_39) s.heap.objs.size (fas.getD 39 0) cdv))) (hE : HeldX Φ frT (gm K fas cas) (cxOf (L2.CX P w) P w K mg base nm_39 "is_best_across" (defScope st_39) (fas.getD 39 0) cdv A outer s H E)) : DSs Φ 4000 (gm K fas cas) (fun c d _ H => E c d H) (frT 39) false (cxOf (L2.CX P w) P w K mg base nm_39 "is_best_across" (defScope st_39) (fas.getD 39 0) cdv A outer s H E) (defBody st_39) co_39 :=
  have S := sc_39; have tk : L2.Takes (cxOf (L2.CX P w) P w K mg base nm_39 "is_best_across" (defScope st_39) (fas.getD 39 0) cdv A outer s H E) (fun c d _ H => E c d H) := takes_of rfl rfl rfl rfl; have hp := passes_of (X := (cxOf (L2.CX P w) P w K mg base nm_39 "is_best_across" (defScope st_39) (fas.getD 39 0) cdv A outer s H E)) rfl; (
    (dss_cons (ds_set 2 S.nd (de_call 12 hE tk (da_cons (de_var 0) da_nil) (hm := G.f_12))) (dss_cons (ds_ret (de_and (de_call 6 hE tk (da_cons (de_var 1) (da_cons (de_ix rfl (de_var 2) de_int) da_nil)) (hm := G.f_6)) (de_one (de_cmp (p := .eq) (r_eq rfl _ hr.units) (de_call 36 hE tk (da_cons (de_var 2) (da_cons (de_var 1) da_nil)) (hm := G.f_36)) (de_call 38 hE tk (da_cons (de_var 2) da_nil) (hm := G.f_38)))))) dss_nil)))
theorem sc_40 : FnScope nm_40 ["web", "thing"] (defScope st_40) := ⟨rfl, rfl, rfl, by decide +kernel, rfl, by decide +kernel, by decide +kernel⟩
theorem d_40 (G : Mg fas mg) (hr : Room n (A.deeper (envOfC "is_odd_round" (defScope st_40) s.heap.objs.size (fas.getD 40 0) cdv))) (hE : HeldX Φ frT (gm K fas cas) (cxOf (L2.CX P w) P w K mg base nm_40 "is_odd_round" (defScope st_40) (fas.getD 40 0) cdv A outer s H E)) : DSs Φ 4000 (gm K fas cas) (fun c d _ H => E c d H) (frT 40) false (cxOf (L2.CX P w) P w K mg base nm_40 "is_odd_round" (defScope st_40) (fas.getD 40 0) cdv A outer s H E) (defBody st_40) co_40 :=
  have S := sc_40; have tk : L2.Takes (cxOf (L2.CX P w) P w K mg base nm_40 "is_odd_round" (defScope st_40) (fas.getD 40 0) cdv A outer s H E) (fun c d _ H => E c d H) := takes_of rfl rfl rfl rfl; have hp := passes_of (X := (cxOf (L2.CX P w) P w K mg base nm_40 "is_odd_round" (defScope st_40) (fas.getD 40 0) cdv A outer s H E)) rfl; (
    (dss_cons (ds_set 2 S.nd (de_call 12 hE tk (da_cons (de_var 0) da_nil) (hm := G.f_12))) (dss_cons (ds_if (dt_w (dw_or (dt_not (dt_of (de_isi "tuple" rfl (hmt := G.b_tuple) (hm := G.b_isinstance) (ha := (de_var 1))))) (dt_one (dt_not (dt_of (de_b1 (p := .all) (c_all rfl _ rfl) G.b_all (bt_all) (de_comp (own := [("place", 4)]) rfl S.nd (di_c rfl (de_var 1)) (blkOk_by (by rfl)) (fun _ _ _ _ _ => (dtg_n 4 S.nd)) (fun _ _ _ _ _ => dts_nil) (fun _ _ _ _ _ => (de_call 1 hE takes0 (da_cons (de_var 4) (da_cons de_int (da_cons (de_bin (p := .sub) (r_sub rfl _) (de_ix rfl (de_var 2) de_int) de_int) da_nil))) (hm := G.f_1)))))))))) (dss_cons (ds_ret de_bl) dss_nil) dss_nil) (dss_cons (ds_if (dt_w (dw_or (dt_cmp (p := .lt) (r_lt rfl _ hr.units0) (de_b1 (p := .len) (c_len rfl _) G.b_len (bt_len) (de_var 1)) de_int) (dw_or (dt_cmp (p := .eq) (r_eq rfl _ hr.units) (de_bin (p := .mod) (r_mod rfl _) (de_b1 (p := .len) (c_len rfl _) G.b_len (bt_len) (de_var 1)) de_int) de_int) (dt_one (dt_cmp (p := .ne) (r_ne rfl _ hr.units) (de_lenset rfl (de_var 1) (hm := G.b_len) (hm2 := G.b_set)) (de_b1 (p := .len) (c_len rfl _) G.b_len (bt_len) (de_var 1))))))) (dss_cons (ds_ret de_bl) dss_nil) dss_nil) (dss_cons (ds_ret (de_b1 (p := .all) (c_all rfl _ rfl) G.b_all (bt_all) (de_comp (own := [("k", 3)]) rfl S.nd (di_rng1 (de_b1 (p := .len) (c_len rfl _) G.b_len (bt_len) (de_var 1)) (hm := G.b_range)) (blkOk_by (by rfl)) (fun _ _ _ _ _ => (dtg_n 3 S.nd)) (fun _ _ _ _ _ => dts_nil) (fun _ _ _ _ _ => (de_call 13 hE takes0 (da_cons (de_var 2) (da_cons (de_ix rfl (de_var 1) (de_bin (p := .sub) (r_sub rfl _) (de_var 3) de_int)) (da_cons (de_ix rfl (de_var 1) (de_var 3)) da_nil))) (hm := G.f_13)))))) dss_nil)))))
theorem sc_41 : FnScope nm_41 ["thing"] (defScope st_41) := ⟨rfl, rfl, rfl, by decide +kernel, rfl, by decide +kernel, by decide +kernel⟩
theorem d_41 (G : Mg fas mg) (hr : Room n (A.deeper (envOfC "are_limits_in" (defScope st_41) s.heap.objs.size (fas.getD 41 0) cdv))) (hE : HeldX Φ frT (gm K fas cas) (cxOf (L2.CX P w) P w K mg base nm_41 "are_limits_in" (defScope st_41) (fas.getD 41 0) cdv A outer s H E)) : DSs Φ 4000 (gm K fas cas) (fun c d _ H => E c d H) (frT 41) false (cxOf (L2.CX P w) P w K mg base nm_41 "are_limits_in" (defScope st_41) (fas.getD 41 0) cdv A outer s H E) (defBody st_41) co_41 :=
  have S := sc_41; have tk : L2.Takes (cxOf (L2.CX P w) P w K mg base nm_41 "are_limits_in" (defScope st_41) (fas.getD 41 0) cdv A outer s H E) (fun c d _ H => E c d H) := takes_of rfl rfl rfl rfl; have hp := passes_of (X := (cxOf (L2.CX P w) P w K mg base nm_41 "are_limits_in" (defScope st_41) (fas.getD 41 0) cdv A outer s H E)) rfl; (
    (dss_cons (ds_ret (de_and (de_call 3 hE tk (da_cons (de_var 0) (da_cons de_int (da_cons (de_bin (p := .sub) (r_sub rfl _) (de_gintE G.k_MOST_PLACES) de_int) da_nil))) (hm := G.f_3)) (de_one (de_chain (p := .le) (p' := .le) (r_le rfl _) (r_le rfl _) de_int (de_b1 (p := .len) (c_len rfl _) G.b_len (bt_len) (de_var 0)) (de_gintE G.k_MOST_LOTS))))) dss_nil))
theorem sc_42 : FnScope nm_42 ["value"] (defScope st_42) := ⟨rfl, rfl, rfl, by decide +kernel, rfl, by decide +kernel, by decide +kernel⟩
theorem d_42 (G : Mg fas mg) (hr : Room n (A.deeper (envOfC "sure_limits" (defScope st_42) s.heap.objs.size (fas.getD 42 0) cdv))) (hE : HeldX Φ frT (gm K fas cas) (cxOf (L2.CX P w) P w K mg base nm_42 "sure_limits" (defScope st_42) (fas.getD 42 0) cdv A outer s H E)) : DSs Φ 4000 (gm K fas cas) (fun c d _ H => E c d H) (frT 42) false (cxOf (L2.CX P w) P w K mg base nm_42 "sure_limits" (defScope st_42) (fas.getD 42 0) cdv A outer s H E) (defBody st_42) co_42 :=
  have S := sc_42; have tk : L2.Takes (cxOf (L2.CX P w) P w K mg base nm_42 "sure_limits" (defScope st_42) (fas.getD 42 0) cdv A outer s H E) (fun c d _ H => E c d H) := takes_of rfl rfl rfl rfl; have hp := passes_of (X := (cxOf (L2.CX P w) P w K mg base nm_42 "sure_limits" (defScope st_42) (fas.getD 42 0) cdv A outer s H E)) rfl; (
    (dss_cons (ds_set 1 S.nd (de_call 4 hE tk (da_cons (de_var 0) da_nil) (hm := G.f_4))) (dss_cons (ds_if (dt_not (dt_of (de_call 41 hE tk (da_cons (de_var 1) da_nil) (hm := G.f_41)))) (dss_cons ds_nev dss_nil) dss_nil) (dss_cons (ds_ret (de_var 1)) dss_nil))))
theorem sc_43 : FnScope nm_43 ["web", "limits", "lots"] (defScope st_43) := ⟨rfl, rfl, rfl, by decide +kernel, rfl, by decide +kernel, by decide +kernel⟩
theorem d_43 (G : Mg fas mg) (hr : Room n (A.deeper (envOfC "keeps_in" (defScope st_43) s.heap.objs.size (fas.getD 43 0) cdv))) (hE : HeldX Φ frT (gm K fas cas) (cxOf (L2.CX P w) P w K mg base nm_43 "keeps_in" (defScope st_43) (fas.getD 43 0) cdv A outer s H E)) : DSs Φ 4000 (gm K fas cas) (fun c d _ H => E c d H) (frT 43) false (cxOf (L2.CX P w) P w K mg base nm_43 "keeps_in" (defScope st_43) (fas.getD 43 0) cdv A outer s H E) (defBody st_43) co_43 :=
  have S := sc_43; have tk : L2.Takes (cxOf (L2.CX P w) P w K mg base nm_43 "keeps_in" (defScope st_43) (fas.getD 43 0) cdv A outer s H E) (fun c d _ H => E c d H) := takes_of rfl rfl rfl rfl; have hp := passes_of (X := (cxOf (L2.CX P w) P w K mg base nm_43 "keeps_in" (defScope st_43) (fas.getD 43 0) cdv A outer s H E)) rfl; (
    (dss_cons (ds_ret (de_b1 (p := .all) (c_all rfl _ rfl) G.b_all (bt_all) (de_comp (own := [("place", 3)]) rfl S.nd (di_rng1 (de_ix rfl (de_var 0) de_int) (hm := G.b_range)) (blkOk_by (by rfl)) (fun _ _ _ _ _ => (dtg_n 3 S.nd)) (fun _ _ _ _ _ => dts_nil) (fun _ _ _ _ _ => (de_cmp (p := .le) (r_le rfl _) (de_call 19 hE takes0 (da_cons (de_var 0) (da_cons (de_var 2) (da_cons (de_var 3) da_nil))) (hm := G.f_19)) (de_ix rfl (de_var 1) (de_ix rfl (de_var 2) (de_var 3)))))))) dss_nil))
theorem sc_44 : FnScope nm_44 ["web", "limits", "lots"] (defScope st_44) := ⟨rfl, rfl, rfl, by decide +kernel, rfl, by decide +kernel, by decide +kernel⟩
theorem d_44 (G : Mg fas mg) (hr : Room n (A.deeper (envOfC "measure_in" (defScope st_44) s.heap.objs.size (fas.getD 44 0) cdv))) (hE : HeldX Φ frT (gm K fas cas) (cxOf (L2.CX P w) P w K mg base nm_44 "measure_in" (defScope st_44) (fas.getD 44 0) cdv A outer s H E)) : DSs Φ 4000 (gm K fas cas) (fun c d _ H => E c d H) (frT 44) false (cxOf (L2.CX P w) P w K mg base nm_44 "measure_in" (defScope st_44) (fas.getD 44 0) cdv A outer s H E) (defBody st_44) co_44 :=
  have S := sc_44; have tk : L2.Takes (cxOf (L2.CX P w) P w K mg base nm_44 "measure_in" (defScope st_44) (fas.getD 44 0) cdv A outer s H E) (fun c d _ H => E c d H) := takes_of rfl rfl rfl rfl; have hp := passes_of (X := (cxOf (L2.CX P w) P w K mg base nm_44 "measure_in" (defScope st_44) (fas.getD 44 0) cdv A outer s H E)) rfl; (
    (dss_cons (ds_ret (de_bin (p := .sub) (r_sub rfl _) (de_b1 (p := .len) (c_len rfl _) G.b_len (bt_len) (de_call 20 hE tk (da_cons (de_var 0) (da_cons (de_var 2) da_nil)) (hm := G.f_20))) (de_b1 (p := .sum) (c_sum rfl _ rfl) G.b_sum (bt_sum) (de_comp (own := [("lot", 3)]) rfl S.nd (di_c rfl (de_var 2)) (blkOk_by (by rfl)) (fun _ _ _ _ _ => (dtg_n 3 S.nd)) (fun _ _ _ _ _ => dts_nil) (fun _ _ _ _ _ => (de_ix rfl (de_var 1) (de_var 3))))))) dss_nil))
theorem sc_45 : FnScope nm_45 ["web", "limits", "lots"] (defScope st_45) := ⟨rfl, rfl, rfl, by decide +kernel, rfl, by decide +kernel, by decide +kernel⟩
theorem d_45 (G : Mg fas mg) (hr : Room n (A.deeper (envOfC "open_moves_in" (defScope st_45) s.heap.objs.size (fas.getD 45 0) cdv))) (hE : HeldX Φ frT (gm K fas cas) (cxOf (L2.CX P w) P w K mg base nm_45 "open_moves_in" (defScope st_45) (fas.getD 45 0) cdv A outer s H E)) : DSs Φ 4000 (gm K fas cas) (fun c d _ H => E c d H) (frT 45) false (cxOf (L2.CX P w) P w K mg base nm_45 "open_moves_in" (defScope st_45) (fas.getD 45 0) cdv A outer s H E) (defBody st_45) co_45 :=
  have S := sc_45; have tk : L2.Takes (cxOf (L2.CX P w) P w K mg base nm_45 "open_moves_in" (defScope st_45) (fas.getD 45 0) cdv A outer s H E) (fun c d _ H => E c d H) := takes_of rfl rfl rfl rfl; have hp := passes_of (X := (cxOf (L2.CX P w) P w K mg base nm_45 "open_moves_in" (defScope st_45) (fas.getD 45 0) cdv A outer s H E)) rfl; (
    (dss_cons (ds_setOw 3 S.nd (de_lst da_nil)) (dss_cons (ds_for hp rfl (di_rng1 (de_ix rfl (de_var 0) de_int) (hm := G.b_range)) (dtg_n 4 S.nd) (dss_cons (ds_if (dt_cmp (p := .gt) (r_gt rfl _) (de_call 19 hE tk (da_cons (de_var 0) (da_cons (de_var 2) (da_cons (de_var 4) da_nil))) (hm := G.f_19)) (de_ix rfl (de_var 1) (de_ix rfl (de_var 2) (de_var 4)))) (dss_cons (ds_for hp rfl (di_rng1 (de_b1 (p := .len) (c_len rfl _) G.b_len (bt_len) (de_var 1)) (hm := G.b_range)) (dtg_n 5 S.nd) (dss_cons (ds_if (dt_w (dw_and (dt_cmp (p := .ne) (r_ne rfl _ hr.units) (de_var 5) (de_ix rfl (de_var 2) (de_var 4))) (dt_one (dt_cmp (p := .le) (r_le rfl _) (de_call 15 hE tk (da_cons (de_var 0) (da_cons (de_var 4) (da_cons (de_call 18 hE tk (da_cons (de_var 2) (da_cons (de_var 5) da_nil)) (hm := G.f_18)) da_nil))) (hm := G.f_15)) (de_ix rfl (de_var 1) (de_var 5)))))) (dss_cons (ds_app 3 (de_tup (da_cons (de_var 4) (da_cons (de_var 5) da_nil)))) dss_nil) dss_nil) (dss_kill 5 dss_nil))) dss_nil) dss_nil) (dss_kill 4 (dss_kill 5 dss_nil)))) (dss_cons (ds_retOw 3) dss_nil))))
theorem sc_46 : FnScope nm_46 ["lots", "place", "lot"] (defScope st_46) := ⟨rfl, rfl, rfl, by decide +kernel, rfl, by decide +kernel, by decide +kernel⟩
theorem d_46 (G : Mg fas mg) (hr : Room n (A.deeper (envOfC "moved_in" (defScope st_46) s.heap.objs.size (fas.getD 46 0) cdv))) (hE : HeldX Φ frT (gm K fas cas) (cxOf (L2.CX P w) P w K mg base nm_46 "moved_in" (defScope st_46) (fas.getD 46 0) cdv A outer s H E)) : DSs Φ 4000 (gm K fas cas) (fun c d _ H => E c d H) (frT 46) false (cxOf (L2.CX P w) P w K mg base nm_46 "moved_in" (defScope st_46) (fas.getD 46 0) cdv A outer s H E) (defBody st_46) co_46 :=
  have S := sc_46; have tk : L2.Takes (cxOf (L2.CX P w) P w K mg base nm_46 "moved_in" (defScope st_46) (fas.getD 46 0) cdv A outer s H E) (fun c d _ H => E c d H) := takes_of rfl rfl rfl rfl; have hp := passes_of (X := (cxOf (L2.CX P w) P w K mg base nm_46 "moved_in" (defScope st_46) (fas.getD 46 0) cdv A outer s H E)) rfl; (
    (dss_cons (ds_ret (de_bin (p := .add) (r_add rfl _) (de_bin (p := .add) (r_add rfl _) (de_slice rfl (de_var 0) dp_no (dp_c (de_var 1))) (de_tup (da_cons (de_var 2) da_nil))) (de_slice rfl (de_var 0) (dp_c (de_bin (p := .add) (r_add rfl _) (de_var 1) de_int)) dp_no))) dss_nil))
theorem sc_47 : FnScope nm_47 ["web", "many"] (defScope st_47) := ⟨rfl, rfl, rfl, by decide +kernel, rfl, by decide +kernel, by decide +kernel⟩
theorem d_47 (G : Mg fas mg) (hr : Room n (A.deeper (envOfC "many_lots" (defScope st_47) s.heap.objs.size (fas.getD 47 0) cdv))) (hE : HeldX Φ frT (gm K fas cas) (cxOf (L2.CX P w) P w K mg base nm_47 "many_lots" (defScope st_47) (fas.getD 47 0) cdv A outer s H E)) : DSs Φ 4000 (gm K fas cas) (fun c d _ H => E c d H) (frT 47) false (cxOf (L2.CX P w) P w K mg base nm_47 "many_lots" (defScope st_47) (fas.getD 47 0) cdv A outer s H E) (defBody st_47) co_47 :=
  have S := sc_47; have tk : L2.Takes (cxOf (L2.CX P w) P w K mg base nm_47 "many_lots" (defScope st_47) (fas.getD 47 0) cdv A outer s H E) (fun c d _ H => E c d H) := takes_of rfl rfl rfl rfl; have hp := passes_of (X := (cxOf (L2.CX P w) P w K mg base nm_47 "many_lots" (defScope st_47) (fas.getD 47 0) cdv A outer s H E)) rfl; (
    (dss_cons (ds_set 2 S.nd de_int) (dss_cons (ds_for hp rfl (di_rng1 (de_ix rfl (de_var 0) de_int) (hm := G.b_range)) (dtg_n 3 S.nd) (dss_cons (ds_aug 2 .mul S.nd (de_var 1)) (dss_cons (ds_if (dt_cmp (p := .gt) (r_gt rfl _) (de_var 2) (de_gintE G.k_MOST_GONE)) (dss_cons ds_nev dss_nil) dss_nil) (dss_kill 3 dss_nil)))) (dss_cons (ds_ret (de_var 2)) dss_nil))))
theorem sc_48 : FnScope nm_48 ["thing"] (defScope st_48) := ⟨rfl, rfl, rfl, by decide +kernel, rfl, by decide +kernel, by decide +kernel⟩
theorem d_48 (G : Mg fas mg) (hr : Room n (A.deeper (envOfC "are_limits" (defScope st_48) s.heap.objs.size (fas.getD 48 0) cdv))) (hE : HeldX Φ frT (gm K fas cas) (cxOf (L2.CX P w) P w K mg base nm_48 "are_limits" (defScope st_48) (fas.getD 48 0) cdv A outer s H E)) : DSs Φ 4000 (gm K fas cas) (fun c d _ H => E c d H) (frT 48) false (cxOf (L2.CX P w) P w K mg base nm_48 "are_limits" (defScope st_48) (fas.getD 48 0) cdv A outer s H E) (defBody st_48) co_48 :=
  have S := sc_48; have tk : L2.Takes (cxOf (L2.CX P w) P w K mg base nm_48 "are_limits" (defScope st_48) (fas.getD 48 0) cdv A outer s H E) (fun c d _ H => E c d H) := takes_of rfl rfl rfl rfl; have hp := passes_of (X := (cxOf (L2.CX P w) P w K mg base nm_48 "are_limits" (defScope st_48) (fas.getD 48 0) cdv A outer s H E)) rfl; (
    (dss_cons (ds_ret (de_call 41 hE tk (da_cons (de_var 0) da_nil) (hm := G.f_41))) dss_nil))
theorem sc_49 : FnScope nm_49 ["web", "limits", "thing"] (defScope st_49) := ⟨rfl, rfl, rfl, by decide +kernel, rfl, by decide +kernel, by decide +kernel⟩
theorem d_49 (G : Mg fas mg) (hr : Room n (A.deeper (envOfC "do_keep" (defScope st_49) s.heap.objs.size (fas.getD 49 0) cdv))) (hE : HeldX Φ frT (gm K fas cas) (cxOf (L2.CX P w) P w K mg base nm_49 "do_keep" (defScope st_49) (fas.getD 49 0) cdv A outer s H E)) : DSs Φ 4000 (gm K fas cas) (fun c d _ H => E c d H) (frT 49) false (cxOf (L2.CX P w) P w K mg base nm_49 "do_keep" (defScope st_49) (fas.getD 49 0) cdv A outer s H E) (defBody st_49) co_49 :=
  have S := sc_49; have tk : L2.Takes (cxOf (L2.CX P w) P w K mg base nm_49 "do_keep" (defScope st_49) (fas.getD 49 0) cdv A outer s H E) (fun c d _ H => E c d H) := takes_of rfl rfl rfl rfl; have hp := passes_of (X := (cxOf (L2.CX P w) P w K mg base nm_49 "do_keep" (defScope st_49) (fas.getD 49 0) cdv A outer s H E)) rfl; (
    (dss_cons (ds_par 3 4 false false rfl S.nd (de_call 12 hE tk (da_cons (de_var 0) da_nil) (hm := G.f_12)) (de_call 42 hE tk (da_cons (de_var 1) da_nil) (hm := G.f_42))) (dss_cons (ds_ret (de_and (de_call 16 hE tk (da_cons (de_var 3) (da_cons (de_b1 (p := .len) (c_len rfl _) G.b_len (bt_len) (de_var 4)) (da_cons (de_var 2) da_nil))) (hm := G.f_16)) (de_one (de_call 43 hE tk (da_cons (de_var 3) (da_cons (de_var 4) (da_cons (de_var 2) da_nil))) (hm := G.f_43))))) dss_nil)))
theorem sc_50 : FnScope nm_50 ["web", "limits", "lots", "thing"] (defScope st_50) := ⟨rfl, rfl, rfl, by decide +kernel, rfl, by decide +kernel, by decide +kernel⟩
theorem d_50 (G : Mg fas mg) (hr : Room n (A.deeper (envOfC "is_move_row" (defScope st_50) s.heap.objs.size (fas.getD 50 0) cdv))) (hE : HeldX Φ frT (gm K fas cas) (cxOf (L2.CX P w) P w K mg base nm_50 "is_move_row" (defScope st_50) (fas.getD 50 0) cdv A outer s H E)) : DSs Φ 4000 (gm K fas cas) (fun c d _ H => E c d H) (frT 50) false (cxOf (L2.CX P w) P w K mg base nm_50 "is_move_row" (defScope st_50) (fas.getD 50 0) cdv A outer s H E) (defBody st_50) co_50 :=
  have S := sc_50; have tk : L2.Takes (cxOf (L2.CX P w) P w K mg base nm_50 "is_move_row" (defScope st_50) (fas.getD 50 0) cdv A outer s H E) (fun c d _ H => E c d H) := takes_of rfl rfl rfl rfl; have hp := passes_of (X := (cxOf (L2.CX P w) P w K mg base nm_50 "is_move_row" (defScope st_50) (fas.getD 50 0) cdv A outer s H E)) rfl; (
    (dss_cons (ds_par 4 5 false false rfl S.nd (de_call 12 hE tk (da_cons (de_var 0) da_nil) (hm := G.f_12)) (de_call 42 hE tk (da_cons (de_var 1) da_nil) (hm := G.f_42))) (dss_cons (ds_set 6 S.nd (de_call 17 hE tk (da_cons (de_var 4) (da_cons (de_b1 (p := .len) (c_len rfl _) G.b_len (bt_len) (de_var 5)) (da_cons (de_var 2) da_nil))) (hm := G.f_17))) (dss_cons (ds_if (dt_not (dt_of (de_isi "tuple" rfl (hmt := G.b_tuple) (hm := G.b_isinstance) (ha := (de_var 3))))) (dss_cons (ds_ret de_bl) dss_nil) dss_nil) (dss_cons (ds_for hp rfl (di_c rfl (de_var 3)) (dtg_n 7 S.nd) (dss_cons (ds_if (dt_w (dw_or (dt_not (dt_of (de_call 2 hE tk (da_cons (de_var 7) (da_cons de_int da_nil)) (hm := G.f_2)))) (dw_or (dt_not (dt_of (de_call 3 hE tk (da_cons (de_var 7) (da_cons de_int (da_cons (de_gintE G.k_MOST_PLACES) da_nil))) (hm := G.f_3)))) (dt_one (dt_cmp (p := .notin) (r_notin rfl _ (hu65 hr)) (de_var 7) (de_call 45 hE tk (da_cons (de_var 4) (da_cons (de_var 5) (da_cons (de_var 6) da_nil))) (hm := G.f_45))))))) (dss_cons (ds_ret de_bl) dss_nil) dss_nil) (dss_cons (ds_set 6 S.nd (de_call 46 hE tk (da_cons (de_var 6) (da_cons (de_ix rfl (de_var 7) de_int) (da_cons (de_ix rfl (de_var 7) de_int) da_nil))) (hm := G.f_46))) (dss_kill 7 dss_nil)))) (dss_cons (ds_ret (de_call 43 hE tk (da_cons (de_var 4) (da_cons (de_var 5) (da_cons (de_var 6) da_nil))) (hm := G.f_43))) dss_nil))))))
theorem sc_51 : FnScope nm_51 ["web", "limits", "thing"] (defScope st_51) := ⟨rfl, rfl, rfl, by decide +kernel, rfl, by decide +kernel, by decide +kernel⟩
theorem d_51 (G : Mg fas mg) (hr : Room n (A.deeper (envOfC "is_least_measure" (defScope st_51) s.heap.objs.size (fas.getD 51 0) cdv))) (hE : HeldX Φ frT (gm K fas cas) (cxOf (L2.CX P w) P w K mg base nm_51 "is_least_measure" (defScope st_51) (fas.getD 51 0) cdv A outer s H E)) : DSs Φ 4000 (gm K fas cas) (fun c d _ H => E c d H) (frT 51) false (cxOf (L2.CX P w) P w K mg base nm_51 "is_least_measure" (defScope st_51) (fas.getD 51 0) cdv A outer s H E) (defBody st_51) co_51 :=
  have S := sc_51; have tk : L2.Takes (cxOf (L2.CX P w) P w K mg base nm_51 "is_least_measure" (defScope st_51) (fas.getD 51 0) cdv A outer s H E) (fun c d _ H => E c d H) := takes_of rfl rfl rfl rfl; have hp := passes_of (X := (cxOf (L2.CX P w) P w K mg base nm_51 "is_least_measure" (defScope st_51) (fas.getD 51 0) cdv A outer s H E)) rfl; (
    (dss_cons (ds_asg (de_tup (da_cons (de_call 12 hE tk (da_cons (de_var 0) da_nil) (hm := G.f_12)) (da_cons (de_call 42 hE tk (da_cons (de_var 1) da_nil) (hm := G.f_42)) da_nil))) (dtg_ts rfl rfl (dtgs_cons 3 (dtgs_cons 4 dtgs_nil S.nd) S.nd))) (dss_cons (ds_expr (de_call 47 hE tk (da_cons (de_var 3) (da_cons (de_b1 (p := .len) (c_len rfl _) G.b_len (bt_len) (de_var 4)) da_nil)) (hm := G.f_47))) (dss_cons (ds_if (dt_not (dt_of (de_call 16 hE tk (da_cons (de_var 3) (da_cons (de_b1 (p := .len) (c_len rfl _) G.b_len (bt_len) (de_var 4)) (da_cons (de_var 2) da_nil))) (hm := G.f_16)))) (dss_cons (ds_ret de_bl) dss_nil) dss_nil) (dss_cons (ds_ret (de_cmp (p := .eq) (r_eq rfl _ hr.units) (de_call 44 hE tk (da_cons (de_var 3) (da_cons (de_var 4) (da_cons (de_var 2) da_nil))) (hm := G.f_44)) (de_b1 (p := .min) (c_min rfl _ rfl) G.b_min (bt_min) (de_comp (own := [("lots", 5)]) rfl S.nd (di_c rfl (de_call 21 hE tk (da_cons (de_var 3) (da_cons (de_b1 (p := .len) (c_len rfl _) G.b_len (bt_len) (de_var 4)) da_nil)) (hm := G.f_21))) (blkOk_by (by rfl)) (fun _ _ _ _ _ => (dtg_n 5 S.nd)) (fun _ _ _ _ _ => dts_nil) (fun _ _ _ _ _ => (de_call 44 hE takes0 (da_cons (de_var 3) (da_cons (de_var 4) (da_cons (de_var 5) da_nil))) (hm := G.f_44))))))) dss_nil)))))
theorem sc_52 : FnScope nm_52 ["thing"] (defScope st_52) := ⟨rfl, rfl, rfl, by decide +kernel, rfl, by decide +kernel, by decide +kernel⟩
theorem d_52 (G : Mg fas mg) (hr : Room n (A.deeper (envOfC "are_shares_in" (defScope st_52) s.heap.objs.size (fas.getD 52 0) cdv))) (hE : HeldX Φ frT (gm K fas cas) (cxOf (L2.CX P w) P w K mg base nm_52 "are_shares_in" (defScope st_52) (fas.getD 52 0) cdv A outer s H E)) : DSs Φ 4000 (gm K fas cas) (fun c d _ H => E c d H) (frT 52) false (cxOf (L2.CX P w) P w K mg base nm_52 "are_shares_in" (defScope st_52) (fas.getD 52 0) cdv A outer s H E) (defBody st_52) co_52 :=
  have S := sc_52; have tk : L2.Takes (cxOf (L2.CX P w) P w K mg base nm_52 "are_shares_in" (defScope st_52) (fas.getD 52 0) cdv A outer s H E) (fun c d _ H => E c d H) := takes_of rfl rfl rfl rfl; have hp := passes_of (X := (cxOf (L2.CX P w) P w K mg base nm_52 "are_shares_in" (defScope st_52) (fas.getD 52 0) cdv A outer s H E)) rfl; (
    (dss_cons (ds_ret (de_and (de_call 3 hE tk (da_cons (de_var 0) (da_cons de_int (da_cons (de_gintE G.k_MOST_SHARE) da_nil))) (hm := G.f_3)) (de_one (de_chain (p := .le) (p' := .le) (r_le rfl _) (r_le rfl _) de_int (de_b1 (p := .len) (c_len rfl _) G.b_len (bt_len) (de_var 0)) (de_gintE G.k_MOST_LOTS))))) dss_nil))
theorem sc_53 : FnScope nm_53 ["value"] (defScope st_53) := ⟨rfl, rfl, rfl, by decide +kernel, rfl, by decide +kernel, by decide +kernel⟩
theorem d_53 (G : Mg fas mg) (hr : Room n (A.deeper (envOfC "sure_shares" (defScope st_53) s.heap.objs.size (fas.getD 53 0) cdv))) (hE : HeldX Φ frT (gm K fas cas) (cxOf (L2.CX P w) P w K mg base nm_53 "sure_shares" (defScope st_53) (fas.getD 53 0) cdv A outer s H E)) : DSs Φ 4000 (gm K fas cas) (fun c d _ H => E c d H) (frT 53) false (cxOf (L2.CX P w) P w K mg base nm_53 "sure_shares" (defScope st_53) (fas.getD 53 0) cdv A outer s H E) (defBody st_53) co_53 :=
  have S := sc_53; have tk : L2.Takes (cxOf (L2.CX P w) P w K mg base nm_53 "sure_shares" (defScope st_53) (fas.getD 53 0) cdv A outer s H E) (fun c d _ H => E c d H) := takes_of rfl rfl rfl rfl; have hp := passes_of (X := (cxOf (L2.CX P w) P w K mg base nm_53 "sure_shares" (defScope st_53) (fas.getD 53 0) cdv A outer s H E)) rfl; (
    (dss_cons (ds_set 1 S.nd (de_call 4 hE tk (da_cons (de_var 0) da_nil) (hm := G.f_4))) (dss_cons (ds_if (dt_not (dt_of (de_call 52 hE tk (da_cons (de_var 1) da_nil) (hm := G.f_52)))) (dss_cons ds_nev dss_nil) dss_nil) (dss_cons (ds_ret (de_var 1)) dss_nil))))
theorem sc_54 : FnScope nm_54 ["web", "shares", "lots", "place"] (defScope st_54) := ⟨rfl, rfl, rfl, by decide +kernel, rfl, by decide +kernel, by decide +kernel⟩
theorem d_54 (G : Mg fas mg) (hr : Room n (A.deeper (envOfC "is_fair_at" (defScope st_54) s.heap.objs.size (fas.getD 54 0) cdv))) (hE : HeldX Φ frT (gm K fas cas) (cxOf (L2.CX P w) P w K mg base nm_54 "is_fair_at" (defScope st_54) (fas.getD 54 0) cdv A outer s H E)) : DSs Φ 4000 (gm K fas cas) (fun c d _ H => E c d H) (frT 54) false (cxOf (L2.CX P w) P w K mg base nm_54 "is_fair_at" (defScope st_54) (fas.getD 54 0) cdv A outer s H E) (defBody st_54) co_54 :=
  have S := sc_54; have tk : L2.Takes (cxOf (L2.CX P w) P w K mg base nm_54 "is_fair_at" (defScope st_54) (fas.getD 54 0) cdv A outer s H E) (fun c d _ H => E c d H) := takes_of rfl rfl rfl rfl; have hp := passes_of (X := (cxOf (L2.CX P w) P w K mg base nm_54 "is_fair_at" (defScope st_54) (fas.getD 54 0) cdv A outer s H E)) rfl; (
    (dss_cons (ds_ret (de_cmp (p := .le) (r_le rfl _) (de_bin (p := .mul) (r_mul rfl _) (de_b1 (p := .sum) (c_sum rfl _ rfl) G.b_sum (bt_sum) (de_var 1)) (de_call 19 hE tk (da_cons (de_var 0) (da_cons (de_var 2) (da_cons (de_var 3) da_nil))) (hm := G.f_19))) (de_bin (p := .mul) (r_mul rfl _) (de_ix rfl (de_var 1) (de_ix rfl (de_var 2) (de_var 3))) (de_call 14 hE tk (da_cons (de_var 0) (da_cons (de_var 3) da_nil)) (hm := G.f_14))))) dss_nil))
theorem sc_55 : FnScope nm_55 ["web", "shares", "lots"] (defScope st_55) := ⟨rfl, rfl, rfl, by decide +kernel, rfl, by decide +kernel, by decide +kernel⟩
theorem d_55 (G : Mg fas mg) (hr : Room n (A.deeper (envOfC "are_fair_in" (defScope st_55) s.heap.objs.size (fas.getD 55 0) cdv))) (hE : HeldX Φ frT (gm K fas cas) (cxOf (L2.CX P w) P w K mg base nm_55 "are_fair_in" (defScope st_55) (fas.getD 55 0) cdv A outer s H E)) : DSs Φ 4000 (gm K fas cas) (fun c d _ H => E c d H) (frT 55) false (cxOf (L2.CX P w) P w K mg base nm_55 "are_fair_in" (defScope st_55) (fas.getD 55 0) cdv A outer s H E) (defBody st_55) co_55 :=
  have S := sc_55; have tk : L2.Takes (cxOf (L2.CX P w) P w K mg base nm_55 "are_fair_in" (defScope st_55) (fas.getD 55 0) cdv A outer s H E) (fun c d _ H => E c d H) := takes_of rfl rfl rfl rfl; have hp := passes_of (X := (cxOf (L2.CX P w) P w K mg base nm_55 "are_fair_in" (defScope st_55) (fas.getD 55 0) cdv A outer s H E)) rfl; (
    (dss_cons (ds_ret (de_b1 (p := .all) (c_all rfl _ rfl) G.b_all (bt_all) (de_comp (own := [("place", 3)]) rfl S.nd (di_rng1 (de_ix rfl (de_var 0) de_int) (hm := G.b_range)) (blkOk_by (by rfl)) (fun _ _ _ _ _ => (dtg_n 3 S.nd)) (fun _ _ _ _ _ => dts_nil) (fun _ _ _ _ _ => (de_call 54 hE takes0 (da_cons (de_var 0) (da_cons (de_var 1) (da_cons (de_var 2) (da_cons (de_var 3) da_nil)))) (hm := G.f_54)))))) dss_nil))
theorem sc_56 : FnScope nm_56 ["web", "shares", "lots"] (defScope st_56) := ⟨rfl, rfl, rfl, by decide +kernel, rfl, by decide +kernel, by decide +kernel⟩
theorem d_56 (G : Mg fas mg) (hr : Room n (A.deeper (envOfC "fair_moves_in" (defScope st_56) s.heap.objs.size (fas.getD 56 0) cdv))) (hE : HeldX Φ frT (gm K fas cas) (cxOf (L2.CX P w) P w K mg base nm_56 "fair_moves_in" (defScope st_56) (fas.getD 56 0) cdv A outer s H E)) : DSs Φ 4000 (gm K fas cas) (fun c d _ H => E c d H) (frT 56) false (cxOf (L2.CX P w) P w K mg base nm_56 "fair_moves_in" (defScope st_56) (fas.getD 56 0) cdv A outer s H E) (defBody st_56) co_56 :=
  have S := sc_56; have tk : L2.Takes (cxOf (L2.CX P w) P w K mg base nm_56 "fair_moves_in" (defScope st_56) (fas.getD 56 0) cdv A outer s H E) (fun c d _ H => E c d H) := takes_of rfl rfl rfl rfl; have hp := passes_of (X := (cxOf (L2.CX P w) P w K mg base nm_56 "fair_moves_in" (defScope st_56) (fas.getD 56 0) cdv A outer s H E)) rfl; (
    (dss_cons (ds_setOw 3 S.nd (de_lst da_nil)) (dss_cons (ds_for hp rfl (di_rng1 (de_ix rfl (de_var 0) de_int) (hm := G.b_range)) (dtg_n 4 S.nd) (dss_cons (ds_if (dt_not (dt_of (de_call 54 hE tk (da_cons (de_var 0) (da_cons (de_var 1) (da_cons (de_var 2) (da_cons (de_var 4) da_nil)))) (hm := G.f_54)))) (dss_cons (ds_for hp rfl (di_rng1 (de_b1 (p := .len) (c_len rfl _) G.b_len (bt_len) (de_var 1)) (hm := G.b_range)) (dtg_n 5 S.nd) (dss_cons (ds_set 6 S.nd (de_call 15 hE tk (da_cons (de_var 0) (da_cons (de_var 4) (da_cons (de_call 18 hE tk (da_cons (de_var 2) (da_cons (de_var 5) da_nil)) (hm := G.f_18)) da_nil))) (hm := G.f_15))) (dss_cons (ds_if (dt_w (dw_and (dt_cmp (p := .ne) (r_ne rfl _ hr.units) (de_var 5) (de_ix rfl (de_var 2) (de_var 4))) (dt_one (dt_cmp (p := .lt) (r_lt rfl _ hr.units0) (de_bin (p := .mul) (r_mul rfl _) (de_b1 (p := .sum) (c_sum rfl _ rfl) G.b_sum (bt_sum) (de_var 1)) (de_var 6)) (de_bin (p := .mul) (r_mul rfl _) (de_ix rfl (de_var 1) (de_var 5)) (de_call 14 hE tk (da_cons (de_var 0) (da_cons (de_var 4) da_nil)) (hm := G.f_14))))))) (dss_cons (ds_app 3 (de_tup (da_cons (de_var 4) (da_cons (de_var 5) da_nil)))) dss_nil) dss_nil) (dss_kill 5 (dss_kill 6 dss_nil))))) dss_nil) dss_nil) (dss_kill 4 (dss_kill 5 (dss_kill 6 dss_nil))))) (dss_cons (ds_retOw 3) dss_nil))))
theorem sc_57 : FnScope nm_57 ["lots", "place", "lot"] (defScope st_57) := ⟨rfl, rfl, rfl, by decide +kernel, rfl, by decide +kernel, by decide +kernel⟩
theorem d_57 (G : Mg fas mg) (hr : Room n (A.deeper (envOfC "put_in" (defScope st_57) s.heap.objs.size (fas.getD 57 0) cdv))) (hE : HeldX Φ frT (gm K fas cas) (cxOf (L2.CX P w) P w K mg base nm_57 "put_in" (defScope st_57) (fas.getD 57 0) cdv A outer s H E)) : DSs Φ 4000 (gm K fas cas) (fun c d _ H => E c d H) (frT 57) false (cxOf (L2.CX P w) P w K mg base nm_57 "put_in" (defScope st_57) (fas.getD 57 0) cdv A outer s H E) (defBody st_57) co_57 :=
  have S := sc_57; have tk : L2.Takes (cxOf (L2.CX P w) P w K mg base nm_57 "put_in" (defScope st_57) (fas.getD 57 0) cdv A outer s H E) (fun c d _ H => E c d H) := takes_of rfl rfl rfl rfl; have hp := passes_of (X := (cxOf (L2.CX P w) P w K mg base nm_57 "put_in" (defScope st_57) (fas.getD 57 0) cdv A outer s H E)) rfl; (
    (dss_cons (ds_ret (de_bin (p := .add) (r_add rfl _) (de_bin (p := .add) (r_add rfl _) (de_slice rfl (de_var 0) dp_no (dp_c (de_var 1))) (de_tup (da_cons (de_var 2) da_nil))) (de_slice rfl (de_var 0) (dp_c (de_bin (p := .add) (r_add rfl _) (de_var 1) de_int)) dp_no))) dss_nil))
theorem sc_58 : FnScope nm_58 ["thing"] (defScope st_58) := ⟨rfl, rfl, rfl, by decide +kernel, rfl, by decide +kernel, by decide +kernel⟩
theorem d_58 (G : Mg fas mg) (hr : Room n (A.deeper (envOfC "are_shares" (defScope st_58) s.heap.objs.size (fas.getD 58 0) cdv))) (hE : HeldX Φ frT (gm K fas cas) (cxOf (L2.CX P w) P w K mg base nm_58 "are_shares" (defScope st_58) (fas.getD 58 0) cdv A outer s H E)) : DSs Φ 4000 (gm K fas cas) (fun c d _ H => E c d H) (frT 58) false (cxOf (L2.CX P w) P w K mg base nm_58 "are_shares" (defScope st_58) (fas.getD 58 0) cdv A outer s H E) (defBody st_58) co_58 :=
  have S := sc_58; have tk : L2.Takes (cxOf (L2.CX P w) P w K mg base nm_58 "are_shares" (defScope st_58) (fas.getD 58 0) cdv A outer s H E) (fun c d _ H => E c d H) := takes_of rfl rfl rfl rfl; have hp := passes_of (X := (cxOf (L2.CX P w) P w K mg base nm_58 "are_shares" (defScope st_58) (fas.getD 58 0) cdv A outer s H E)) rfl; (
    (dss_cons (ds_ret (de_call 52 hE tk (da_cons (de_var 0) da_nil) (hm := G.f_52))) dss_nil))
theorem sc_59 : FnScope nm_59 ["web", "shares", "thing"] (defScope st_59) := ⟨rfl, rfl, rfl, by decide +kernel, rfl, by decide +kernel, by decide +kernel⟩
theorem d_59 (G : Mg fas mg) (hr : Room n (A.deeper (envOfC "do_share" (defScope st_59) s.heap.objs.size (fas.getD 59 0) cdv))) (hE : HeldX Φ frT (gm K fas cas) (cxOf (L2.CX P w) P w K mg base nm_59 "do_share" (defScope st_59) (fas.getD 59 0) cdv A outer s H E)) : DSs Φ 4000 (gm K fas cas) (fun c d _ H => E c d H) (frT 59) false (cxOf (L2.CX P w) P w K mg base nm_59 "do_share" (defScope st_59) (fas.getD 59 0) cdv A outer s H E) (defBody st_59) co_59 :=
  have S := sc_59; have tk : L2.Takes (cxOf (L2.CX P w) P w K mg base nm_59 "do_share" (defScope st_59) (fas.getD 59 0) cdv A outer s H E) (fun c d _ H => E c d H) := takes_of rfl rfl rfl rfl; have hp := passes_of (X := (cxOf (L2.CX P w) P w K mg base nm_59 "do_share" (defScope st_59) (fas.getD 59 0) cdv A outer s H E)) rfl; (
    (dss_cons (ds_par 3 4 false false rfl S.nd (de_call 12 hE tk (da_cons (de_var 0) da_nil) (hm := G.f_12)) (de_call 53 hE tk (da_cons (de_var 1) da_nil) (hm := G.f_53))) (dss_cons (ds_ret (de_and (de_call 16 hE tk (da_cons (de_var 3) (da_cons (de_b1 (p := .len) (c_len rfl _) G.b_len (bt_len) (de_var 4)) (da_cons (de_var 2) da_nil))) (hm := G.f_16)) (de_one (de_call 55 hE tk (da_cons (de_var 3) (da_cons (de_var 4) (da_cons (de_var 2) da_nil))) (hm := G.f_55))))) dss_nil)))
theorem sc_60 : FnScope nm_60 ["web", "shares", "lots", "thing"] (defScope st_60) := ⟨rfl, rfl, rfl, by decide +kernel, rfl, by decide +kernel, by decide +kernel⟩
theorem d_60 (G : Mg fas mg) (hr : Room n (A.deeper (envOfC "is_share_row" (defScope st_60) s.heap.objs.size (fas.getD 60 0) cdv))) (hE : HeldX Φ frT (gm K fas cas) (cxOf (L2.CX P w) P w K mg base nm_60 "is_share_row" (defScope st_60) (fas.getD 60 0) cdv A outer s H E)) : DSs Φ 4000 (gm K fas cas) (fun c d _ H => E c d H) (frT 60) false (cxOf (L2.CX P w) P w K mg base nm_60 "is_share_row" (defScope st_60) (fas.getD 60 0) cdv A outer s H E) (defBody st_60) co_60 :=
  have S := sc_60; have tk : L2.Takes (cxOf (L2.CX P w) P w K mg base nm_60 "is_share_row" (defScope st_60) (fas.getD 60 0) cdv A outer s H E) (fun c d _ H => E c d H) := takes_of rfl rfl rfl rfl; have hp := passes_of (X := (cxOf (L2.CX P w) P w K mg base nm_60 "is_share_row" (defScope st_60) (fas.getD 60 0) cdv A outer s H E)) rfl; (
    (dss_cons (ds_par 4 5 false false rfl S.nd (de_call 12 hE tk (da_cons (de_var 0) da_nil) (hm := G.f_12)) (de_call 53 hE tk (da_cons (de_var 1) da_nil) (hm := G.f_53))) (dss_cons (ds_set 6 S.nd (de_call 17 hE tk (da_cons (de_var 4) (da_cons (de_b1 (p := .len) (c_len rfl _) G.b_len (bt_len) (de_var 5)) (da_cons (de_var 2) da_nil))) (hm := G.f_17))) (dss_cons (ds_if (dt_not (dt_of (de_isi "tuple" rfl (hmt := G.b_tuple) (hm := G.b_isinstance) (ha := (de_var 3))))) (dss_cons (ds_ret de_bl) dss_nil) dss_nil) (dss_cons (ds_for hp rfl (di_c rfl (de_var 3)) (dtg_n 7 S.nd) (dss_cons (ds_if (dt_w (dw_or (dt_not (dt_of (de_call 2 hE tk (da_cons (de_var 7) (da_cons de_int da_nil)) (hm := G.f_2)))) (dw_or (dt_not (dt_of (de_call 3 hE tk (da_cons (de_var 7) (da_cons de_int (da_cons (de_gintE G.k_MOST_PLACES) da_nil))) (hm := G.f_3)))) (dt_one (dt_cmp (p := .notin) (r_notin rfl _ (hu65 hr)) (de_var 7) (de_call 56 hE tk (da_cons (de_var 4) (da_cons (de_var 5) (da_cons (de_var 6) da_nil))) (hm := G.f_56))))))) (dss_cons (ds_ret de_bl) dss_nil) dss_nil) (dss_cons (ds_set 6 S.nd (de_call 57 hE tk (da_cons (de_var 6) (da_cons (de_ix rfl (de_var 7) de_int) (da_cons (de_ix rfl (de_var 7) de_int) da_nil))) (hm := G.f_57))) (dss_kill 7 dss_nil)))) (dss_cons (ds_ret (de_call 55 hE tk (da_cons (de_var 4) (da_cons (de_var 5) (da_cons (de_var 6) da_nil))) (hm := G.f_55))) dss_nil))))))
theorem sc_61 : FnScope nm_61 ["web", "thing"] (defScope st_61) := ⟨rfl, rfl, rfl, by decide +kernel, rfl, by decide +kernel, by decide +kernel⟩
theorem d_61 (G : Mg fas mg) (hr : Room n (A.deeper (envOfC "are_numbers_in" (defScope st_61) s.heap.objs.size (fas.getD 61 0) cdv))) (hE : HeldX Φ frT (gm K fas cas) (cxOf (L2.CX P w) P w K mg base nm_61 "are_numbers_in" (defScope st_61) (fas.getD 61 0) cdv A outer s H E)) : DSs Φ 4000 (gm K fas cas) (fun c d _ H => E c d H) (frT 61) false (cxOf (L2.CX P w) P w K mg base nm_61 "are_numbers_in" (defScope st_61) (fas.getD 61 0) cdv A outer s H E) (defBody st_61) co_61 :=
  have S := sc_61; have tk : L2.Takes (cxOf (L2.CX P w) P w K mg base nm_61 "are_numbers_in" (defScope st_61) (fas.getD 61 0) cdv A outer s H E) (fun c d _ H => E c d H) := takes_of rfl rfl rfl rfl; have hp := passes_of (X := (cxOf (L2.CX P w) P w K mg base nm_61 "are_numbers_in" (defScope st_61) (fas.getD 61 0) cdv A outer s H E)) rfl; (
    (dss_cons (ds_ret (de_and (de_call 3 hE tk (da_cons (de_var 1) (da_cons de_int (da_cons (de_bin (p := .sub) (r_sub rfl _) (de_gintE G.k_MOST_PLACES) de_int) da_nil))) (hm := G.f_3)) (de_one (de_cmp (p := .eq) (r_eq rfl _ hr.units) (de_b1 (p := .len) (c_len rfl _) G.b_len (bt_len) (de_var 1)) (de_ix rfl (de_var 0) de_int))))) dss_nil))
theorem sc_62 : FnScope nm_62 ["web", "thing"] (defScope st_62) := ⟨rfl, rfl, rfl, by decide +kernel, rfl, by decide +kernel, by decide +kernel⟩
theorem d_62 (G : Mg fas mg) (hr : Room n (A.deeper (envOfC "are_wants_in" (defScope st_62) s.heap.objs.size (fas.getD 62 0) cdv))) (hE : HeldX Φ frT (gm K fas cas) (cxOf (L2.CX P w) P w K mg base nm_62 "are_wants_in" (defScope st_62) (fas.getD 62 0) cdv A outer s H E)) : DSs Φ 4000 (gm K fas cas) (fun c d _ H => E c d H) (frT 62) false (cxOf (L2.CX P w) P w K mg base nm_62 "are_wants_in" (defScope st_62) (fas.getD 62 0) cdv A outer s H E) (defBody st_62) co_62 :=
  have S := sc_62; have tk : L2.Takes (cxOf (L2.CX P w) P w K mg base nm_62 "are_wants_in" (defScope st_62) (fas.getD 62 0) cdv A outer s H E) (fun c d _ H => E c d H) := takes_of rfl rfl rfl rfl; have hp := passes_of (X := (cxOf (L2.CX P w) P w K mg base nm_62 "are_wants_in" (defScope st_62) (fas.getD 62 0) cdv A outer s H E)) rfl; (
    (dss_cons (ds_ret (de_and (de_call 2 hE tk (da_cons (de_var 1) (da_cons de_int da_nil)) (hm := G.f_2)) (de_one (de_b1 (p := .all) (c_all rfl _ rfl) G.b_all (bt_all) (de_comp (own := [("own", 2)]) rfl S.nd (di_c rfl (de_var 1)) (blkOk_by (by rfl)) (fun _ _ _ _ _ => (dtg_n 2 S.nd)) (fun _ _ _ _ _ => dts_nil) (fun _ _ _ _ _ => (de_call 61 hE takes0 (da_cons (de_var 0) (da_cons (de_var 2) da_nil)) (hm := G.f_61)))))))) dss_nil))
theorem sc_63 : FnScope nm_63 ["web", "value"] (defScope st_63) := ⟨rfl, rfl, rfl, by decide +kernel, rfl, by decide +kernel, by decide +kernel⟩
theorem d_63 (G : Mg fas mg) (hr : Room n (A.deeper (envOfC "sure_wants" (defScope st_63) s.heap.objs.size (fas.getD 63 0) cdv))) (hE : HeldX Φ frT (gm K fas cas) (cxOf (L2.CX P w) P w K mg base nm_63 "sure_wants" (defScope st_63) (fas.getD 63 0) cdv A outer s H E)) : DSs Φ 4000 (gm K fas cas) (fun c d _ H => E c d H) (frT 63) false (cxOf (L2.CX P w) P w K mg base nm_63 "sure_wants" (defScope st_63) (fas.getD 63 0) cdv A outer s H E) (defBody st_63) co_63 :=
  have S := sc_63; have tk : L2.Takes (cxOf (L2.CX P w) P w K mg base nm_63 "sure_wants" (defScope st_63) (fas.getD 63 0) cdv A outer s H E) (fun c d _ H => E c d H) := takes_of rfl rfl rfl rfl; have hp := passes_of (X := (cxOf (L2.CX P w) P w K mg base nm_63 "sure_wants" (defScope st_63) (fas.getD 63 0) cdv A outer s H E)) rfl; (
    (dss_cons (ds_set 2 S.nd (de_call 4 hE tk (da_cons (de_var 1) da_nil) (hm := G.f_4))) (dss_cons (ds_if (dt_not (dt_of (de_call 62 hE tk (da_cons (de_var 0) (da_cons (de_var 2) da_nil)) (hm := G.f_62)))) (dss_cons ds_nev dss_nil) dss_nil) (dss_cons (ds_ret (de_var 2)) dss_nil))))
theorem sc_64 : FnScope nm_64 ["web", "value"] (defScope st_64) := ⟨rfl, rfl, rfl, by decide +kernel, rfl, by decide +kernel, by decide +kernel⟩
theorem d_64 (G : Mg fas mg) (hr : Room n (A.deeper (envOfC "sure_numbers" (defScope st_64) s.heap.objs.size (fas.getD 64 0) cdv))) (hE : HeldX Φ frT (gm K fas cas) (cxOf (L2.CX P w) P w K mg base nm_64 "sure_numbers" (defScope st_64) (fas.getD 64 0) cdv A outer s H E)) : DSs Φ 4000 (gm K fas cas) (fun c d _ H => E c d H) (frT 64) false (cxOf (L2.CX P w) P w K mg base nm_64 "sure_numbers" (defScope st_64) (fas.getD 64 0) cdv A outer s H E) (defBody st_64) co_64 :=
  have S := sc_64; have tk : L2.Takes (cxOf (L2.CX P w) P w K mg base nm_64 "sure_numbers" (defScope st_64) (fas.getD 64 0) cdv A outer s H E) (fun c d _ H => E c d H) := takes_of rfl rfl rfl rfl; have hp := passes_of (X := (cxOf (L2.CX P w) P w K mg base nm_64 "sure_numbers" (defScope st_64) (fas.getD 64 0) cdv A outer s H E)) rfl; (
    (dss_cons (ds_set 2 S.nd (de_call 4 hE tk (da_cons (de_var 1) da_nil) (hm := G.f_4))) (dss_cons (ds_if (dt_not (dt_of (de_call 61 hE tk (da_cons (de_var 0) (da_cons (de_var 2) da_nil)) (hm := G.f_61)))) (dss_cons ds_nev dss_nil) dss_nil) (dss_cons (ds_ret (de_var 2)) dss_nil))))
theorem sc_65 : FnScope nm_65 ["web", "numbers", "some"] (defScope st_65) := ⟨rfl, rfl, rfl, by decide +kernel, rfl, by decide +kernel, by decide +kernel⟩
theorem d_65 (G : Mg fas mg) (hr : Room n (A.deeper (envOfC "is_held_in" (defScope st_65) s.heap.objs.size (fas.getD 65 0) cdv))) (hE : HeldX Φ frT (gm K fas cas) (cxOf (L2.CX P w) P w K mg base nm_65 "is_held_in" (defScope st_65) (fas.getD 65 0) cdv A outer s H E)) : DSs Φ 4000 (gm K fas cas) (fun c d _ H => E c d H) (frT 65) false (cxOf (L2.CX P w) P w K mg base nm_65 "is_held_in" (defScope st_65) (fas.getD 65 0) cdv A outer s H E) (defBody st_65) co_65 :=
  have S := sc_65; have tk : L2.Takes (cxOf (L2.CX P w) P w K mg base nm_65 "is_held_in" (defScope st_65) (fas.getD 65 0) cdv A outer s H E) (fun c d _ H => E c d H) := takes_of rfl rfl rfl rfl; have hp := passes_of (X := (cxOf (L2.CX P w) P w K mg base nm_65 "is_held_in" (defScope st_65) (fas.getD 65 0) cdv A outer s H E)) rfl; (
    (dss_cons (ds_ret (de_b1 (p := .all) (c_all rfl _ rfl) G.b_all (bt_all) (de_comp (own := [("place", 3)]) rfl S.nd (di_c rfl (de_var 2)) (blkOk_by (by rfl)) (fun _ _ _ _ _ => (dtg_n 3 S.nd)) (fun _ _ _ _ _ => dts_nil) (fun _ _ _ _ _ => (de_cmp (p := .ge) (r_ge rfl _) (de_call 15 hE takes0 (da_cons (de_var 0) (da_cons (de_var 3) (da_cons (de_var 2) da_nil))) (hm := G.f_15)) (de_ix rfl (de_var 1) (de_var 3))))))) dss_nil))
theorem sc_66 : FnScope nm_66 ["web", "wants", "some"] (defScope st_66) := ⟨rfl, rfl, rfl, by decide +kernel, rfl, by decide +kernel, by decide +kernel⟩
theorem d_66 (G : Mg fas mg) (hr : Room n (A.deeper (envOfC "is_half_in" (defScope st_66) s.heap.objs.size (fas.getD 66 0) cdv))) (hE : HeldX Φ frT (gm K fas cas) (cxOf (L2.CX P w) P w K mg base nm_66 "is_half_in" (defScope st_66) (fas.getD 66 0) cdv A outer s H E)) : DSs Φ 4000 (gm K fas cas) (fun c d _ H => E c d H) (frT 66) false (cxOf (L2.CX P w) P w K mg base nm_66 "is_half_in" (defScope st_66) (fas.getD 66 0) cdv A outer s H E) (defBody st_66) co_66 :=
  have S := sc_66; have tk : L2.Takes (cxOf (L2.CX P w) P w K mg base nm_66 "is_half_in" (defScope st_66) (fas.getD 66 0) cdv A outer s H E) (fun c d _ H => E c d H) := takes_of rfl rfl rfl rfl; have hp := passes_of (X := (cxOf (L2.CX P w) P w K mg base nm_66 "is_half_in" (defScope st_66) (fas.getD 66 0) cdv A outer s H E)) rfl; (
    (dss_cons (ds_set 3 S.nd (de_call 7 hE tk (da_cons (de_t1 (p := .tuple) (c_tuple rfl _) G.b_tuple (bt_tuple) (de_listR1 rfl (de_ix rfl (de_var 0) de_int) (hm := G.b_list) (hm2 := G.b_range))) (da_cons (de_var 2) da_nil)) (hm := G.f_7))) (dss_cons (ds_ret (de_and (de_cmp (p := .ne) (r_ne rfl _ hr.units) (de_var 2) (de_tup da_nil)) (de_and (de_cmp (p := .ne) (r_ne rfl _ hr.units) (de_var 3) (de_tup da_nil)) (de_and (de_call 65 hE tk (da_cons (de_var 0) (da_cons (de_ix rfl (de_var 1) de_int) (da_cons (de_var 2) da_nil))) (hm := G.f_65)) (de_one (de_call 65 hE tk (da_cons (de_var 0) (da_cons (de_ix rfl (de_var 1) de_int) (da_cons (de_var 3) da_nil))) (hm := G.f_65))))))) dss_nil)))
theorem sc_67 : FnScope nm_67 ["web", "thing"] (defScope st_67) := ⟨rfl, rfl, rfl, by decide +kernel, rfl, by decide +kernel, by decide +kernel⟩
theorem d_67 (G : Mg fas mg) (hr : Room n (A.deeper (envOfC "are_wants" (defScope st_67) s.heap.objs.size (fas.getD 67 0) cdv))) (hE : HeldX Φ frT (gm K fas cas) (cxOf (L2.CX P w) P w K mg base nm_67 "are_wants" (defScope st_67) (fas.getD 67 0) cdv A outer s H E)) : DSs Φ 4000 (gm K fas cas) (fun c d _ H => E c d H) (frT 67) false (cxOf (L2.CX P w) P w K mg base nm_67 "are_wants" (defScope st_67) (fas.getD 67 0) cdv A outer s H E) (defBody st_67) co_67 :=
  have S := sc_67; have tk : L2.Takes (cxOf (L2.CX P w) P w K mg base nm_67 "are_wants" (defScope st_67) (fas.getD 67 0) cdv A outer s H E) (fun c d _ H => E c d H) := takes_of rfl rfl rfl rfl; have hp := passes_of (X := (cxOf (L2.CX P w) P w K mg base nm_67 "are_wants" (defScope st_67) (fas.getD 67 0) cdv A outer s H E)) rfl; (
    (dss_cons (ds_ret (de_call 62 hE tk (da_cons (de_call 12 hE tk (da_cons (de_var 0) da_nil) (hm := G.f_12)) (da_cons (de_var 1) da_nil)) (hm := G.f_62))) dss_nil))
theorem sc_68 : FnScope nm_68 ["web", "numbers", "thing"] (defScope st_68) := ⟨rfl, rfl, rfl, by decide +kernel, rfl, by decide +kernel, by decide +kernel⟩
theorem d_68 (G : Mg fas mg) (hr : Room n (A.deeper (envOfC "is_held" (defScope st_68) s.heap.objs.size (fas.getD 68 0) cdv))) (hE : HeldX Φ frT (gm K fas cas) (cxOf (L2.CX P w) P w K mg base nm_68 "is_held" (defScope st_68) (fas.getD 68 0) cdv A outer s H E)) : DSs Φ 4000 (gm K fas cas) (fun c d _ H => E c d H) (frT 68) false (cxOf (L2.CX P w) P w K mg base nm_68 "is_held" (defScope st_68) (fas.getD 68 0) cdv A outer s H E) (defBody st_68) co_68 :=
  have S := sc_68; have tk : L2.Takes (cxOf (L2.CX P w) P w K mg base nm_68 "is_held" (defScope st_68) (fas.getD 68 0) cdv A outer s H E) (fun c d _ H => E c d H) := takes_of rfl rfl rfl rfl; have hp := passes_of (X := (cxOf (L2.CX P w) P w K mg base nm_68 "is_held" (defScope st_68) (fas.getD 68 0) cdv A outer s H E)) rfl; (
    (dss_cons (ds_set 3 S.nd (de_call 12 hE tk (da_cons (de_var 0) da_nil) (hm := G.f_12))) (dss_cons (ds_set 4 S.nd (de_call 64 hE tk (da_cons (de_var 3) (da_cons (de_var 1) da_nil)) (hm := G.f_64))) (dss_cons (ds_ret (de_and (de_call 6 hE tk (da_cons (de_var 2) (da_cons (de_ix rfl (de_var 3) de_int) da_nil)) (hm := G.f_6)) (de_one (de_call 65 hE tk (da_cons (de_var 3) (da_cons (de_var 4) (da_cons (de_var 2) da_nil))) (hm := G.f_65))))) dss_nil))))
theorem sc_69 : FnScope nm_69 ["web", "wants", "thing"] (defScope st_69) := ⟨rfl, rfl, rfl, by decide +kernel, rfl, by decide +kernel, by decide +kernel⟩
theorem d_69 (G : Mg fas mg) (hr : Room n (A.deeper (envOfC "is_half" (defScope st_69) s.heap.objs.size (fas.getD 69 0) cdv))) (hE : HeldX Φ frT (gm K fas cas) (cxOf (L2.CX P w) P w K mg base nm_69 "is_half" (defScope st_69) (fas.getD 69 0) cdv A outer s H E)) : DSs Φ 4000 (gm K fas cas) (fun c d _ H => E c d H) (frT 69) false (cxOf (L2.CX P w) P w K mg base nm_69 "is_half" (defScope st_69) (fas.getD 69 0) cdv A outer s H E) (defBody st_69) co_69 :=
  have S := sc_69; have tk : L2.Takes (cxOf (L2.CX P w) P w K mg base nm_69 "is_half" (defScope st_69) (fas.getD 69 0) cdv A outer s H E) (fun c d _ H => E c d H) := takes_of rfl rfl rfl rfl; have hp := passes_of (X := (cxOf (L2.CX P w) P w K mg base nm_69 "is_half" (defScope st_69) (fas.getD 69 0) cdv A outer s H E)) rfl; (
    (dss_cons (ds_set 3 S.nd (de_call 12 hE tk (da_cons (de_var 0) da_nil) (hm := G.f_12))) (dss_cons (ds_set 4 S.nd (de_call 63 hE tk (da_cons (de_var 3) (da_cons (de_var 1) da_nil)) (hm := G.f_63))) (dss_cons (ds_ret (de_and (de_call 6 hE tk (da_cons (de_var 2) (da_cons (de_ix rfl (de_var 3) de_int) da_nil)) (hm := G.f_6)) (de_one (de_call 66 hE tk (da_cons (de_var 3) (da_cons (de_var 4) (da_cons (de_var 2) da_nil))) (hm := G.f_66))))) dss_nil))))
theorem sc_70 : FnScope nm_70 ["script", "k"] (defScope st_70) := ⟨rfl, rfl, rfl, by decide +kernel, rfl, by decide +kernel, by decide +kernel⟩
theorem d_70 (G : Mg fas mg) (hr : Room n (A.deeper (envOfC "_law_box" (defScope st_70) s.heap.objs.size (fas.getD 70 0) cdv))) (hE : HeldX Φ frT (gm K fas cas) (cxOf (L2.CX P w) P w K mg base nm_70 "_law_box" (defScope st_70) (fas.getD 70 0) cdv A outer s H E)) : DSs Φ 4000 (gm K fas cas) (fun c d _ H => E c d H) (frT 70) false (cxOf (L2.CX P w) P w K mg base nm_70 "_law_box" (defScope st_70) (fas.getD 70 0) cdv A outer s H E) (defBody st_70) co_70 :=
  have S := sc_70; have tk : L2.Takes (cxOf (L2.CX P w) P w K mg base nm_70 "_law_box" (defScope st_70) (fas.getD 70 0) cdv A outer s H E) (fun c d _ H => E c d H) := takes_of rfl rfl rfl rfl; have hp := passes_of (X := (cxOf (L2.CX P w) P w K mg base nm_70 "_law_box" (defScope st_70) (fas.getD 70 0) cdv A outer s H E)) rfl; (
    (dss_cons (ds_set 2 S.nd (de_ife (dt_cmp (p := .lt) (r_lt rfl _ hr.units0) (de_var 1) (de_b1 (p := .len) (c_len rfl _) G.b_len (bt_len) (de_var 0))) (de_ix rfl (de_var 0) (de_var 1)) de_int)) (dss_cons (ds_ret (de_lst (da_cons (de_bin (p := .mul) (r_mul rfl _) (de_b1 (p := .abs) (c_abs rfl _) G.b_abs (bt_abs) (de_var 2)) (de_t1 (p := .int) (c_int rfl _) G.b_int (bt_int) (de_cmp (p := .ge) (r_ge rfl _) (de_b1 (p := .abs) (c_abs rfl _) G.b_abs (bt_abs) (de_var 2)) (de_bin (p := .pow) (r_pow rfl _) de_int de_int)))) (da_cons (de_bin (p := .add) (r_add rfl _) (de_bin (p := .add) (r_add rfl _) (de_bin (p := .mod) (r_mod rfl _) (de_t1 (p := .int) (c_int rfl _) G.b_int (bt_int) (de_var 2)) de_int) (de_bin (p := .mul) (r_mul rfl _) de_int (de_var 1))) de_int) (da_cons de_int da_nil))))) dss_nil)))
theorem sc_71 : FnScope nm_71 ["tin", "below_so"] (defScope st_71) := ⟨rfl, rfl, rfl, by decide +kernel, rfl, by decide +kernel, by decide +kernel⟩
theorem d_71 (G : Mg fas mg) (hr : Room n (A.deeper (envOfC "_law_take" (defScope st_71) s.heap.objs.size (fas.getD 71 0) cdv))) (hE : HeldX Φ frT (gm K fas cas) (cxOf (L2.CX P w) P w K mg base nm_71 "_law_take" (defScope st_71) (fas.getD 71 0) cdv A outer s H E)) : DSs Φ 4000 (gm K fas cas) (fun c d _ H => E c d H) (frT 71) true (cxOf (L2.CX P w) P w K mg base nm_71 "_law_take" (defScope st_71) (fas.getD 71 0) cdv A outer s H E) (defBody st_71) co_71 :=
  have S := sc_71; have tk : L2.Takes (cxOf (L2.CX P w) P w K mg base nm_71 "_law_take" (defScope st_71) (fas.getD 71 0) cdv A outer s H E) (fun c d _ H => E c d H) := takes_of rfl rfl rfl rfl; have hp := passes_of (X := (cxOf (L2.CX P w) P w K mg base nm_71 "_law_take" (defScope st_71) (fas.getD 71 0) cdv A outer s H E)) rfl; (
    (dss_cons (ds_if (dt_cmp (p := .gt) (r_gt rfl _) (de_ix rfl (dg_b 0) de_int) de_int) (dss_cons (ds_set 2 S.nd (de_bin (p := .mod) (r_mod rfl _) (de_t1 (p := .int) (c_int rfl _) G.b_int (bt_int) (de_ix rfl (dg_b 0) de_int)) (de_var 1))) (dss_cons (ds_subset 0 (de_bin (p := .div) (r_div rfl _) (de_ix rfl (dg_b 0) de_int) (de_var 1)) de_int) (dss_cons (ds_ret (de_var 2)) dss_nil))) dss_nil) (dss_cons (ds_subset 0 (de_bin (p := .add) (r_add rfl _) (de_ix rfl (dg_b 0) de_int) de_int) de_int) (dss_cons (ds_set 3 S.nd (de_bin (p := .mod) (r_mod rfl _) (de_t1 (p := .int) (c_int rfl _) G.b_int (bt_int) (de_bin (p := .mul) (r_mul rfl _) (de_bin (p := .add) (r_add rfl _) (de_ix rfl (dg_b 0) de_int) (de_bin (p := .mul) (r_mul rfl _) de_int (de_ix rfl (dg_b 0) de_int))) (de_bin (p := .add) (r_add rfl _) de_int (de_ix rfl (dg_b 0) de_int)))) de_int)) (dss_cons (ds_set 4 S.nd (de_bin (p := .add) (r_add rfl _) (de_bin (p := .mod) (r_mod rfl _) (de_t1 (p := .int) (c_int rfl _) G.b_int (bt_int) (de_var 3)) de_int) de_int)) (dss_cons (ds_set 5 S.nd (de_bin (p := .mod) (r_mod rfl _) (de_t1 (p := .int) (c_int rfl _) G.b_int (bt_int) (de_bin (p := .mul) (r_mul rfl _) (de_bin (p := .add) (r_add rfl _) (de_bin (p := .add) (r_add rfl _) (de_var 3) (de_ix rfl (dg_b 0) de_int)) (de_bin (p := .div) (r_div rfl _) (de_ix rfl (dg_b 0) de_int) de_int)) (de_var 4))) de_int)) (dss_cons (ds_ret (de_bin (p := .mod) (r_mod rfl _) (de_t1 (p := .int) (c_int rfl _) G.b_int (bt_int) (de_bin (p := .div) (r_div rfl _) (de_bin (p := .mod) (r_mod rfl _) (de_t1 (p := .int) (c_int rfl _) G.b_int (bt_int) (de_bin (p := .add) (r_add rfl _) (de_bin (p := .mul) (r_mul rfl _) (de_var 5) de_int) (de_var 3))) de_int) de_int)) (de_var 1))) dss_nil)))))))
theorem sc_72 : FnScope nm_72 ["script", "most_so"] (defScope st_72) := ⟨rfl, rfl, rfl, by decide +kernel, rfl, by decide +kernel, by decide +kernel⟩
theorem d_72 (G : Mg fas mg) (hr : Room n (A.deeper (envOfC "_law_cells" (defScope st_72) s.heap.objs.size (fas.getD 72 0) cdv))) (hE : HeldX Φ frT (gm K fas cas) (cxOf (L2.CX P w) P w K mg base nm_72 "_law_cells" (defScope st_72) (fas.getD 72 0) cdv A outer s H E)) : DSs Φ 4000 (gm K fas cas) (fun c d _ H => E c d H) (frT 72) false (cxOf (L2.CX P w) P w K mg base nm_72 "_law_cells" (defScope st_72) (fas.getD 72 0) cdv A outer s H E) (defBody st_72) co_72 :=
  have S := sc_72; have tk : L2.Takes (cxOf (L2.CX P w) P w K mg base nm_72 "_law_cells" (defScope st_72) (fas.getD 72 0) cdv A outer s H E) (fun c d _ H => E c d H) := takes_of rfl rfl rfl rfl; have hp := passes_of (X := (cxOf (L2.CX P w) P w K mg base nm_72 "_law_cells" (defScope st_72) (fas.getD 72 0) cdv A outer s H E)) rfl; (
    (dss_cons (ds_setOw 2 S.nd (de_or (de_t1 (p := .list) (c_list rfl _) G.b_list (bt_list) (de_slice rfl (de_var 0) dp_no (dp_c (de_var 1)))) (de_one (de_lst (da_cons de_int da_nil))))) (dss_cons (ds_for hp rfl (di_enum (de_slice rfl (de_var 0) (dp_c (de_var 1)) (dp_c de_int)) (hm := G.b_enumerate)) (dtg_ts rfl rfl (dtgs_cons 3 (dtgs_cons 4 dtgs_nil S.nd) S.nd)) (dss_cons (ds_set 5 S.nd (de_bin (p := .mod) (r_mod rfl _) (de_t1 (p := .int) (c_int rfl _) G.b_int (bt_int) (de_var 3)) (de_var 1))) (dss_cons (ds_subset 2 (de_bin (p := .add) (r_add rfl _) (de_ix rfl (dg_b 2) (de_var 5)) (de_bin (p := .mul) (r_mul rfl _) (de_var 4) (de_bin (p := .add) (r_add rfl _) (de_var 3) de_int))) (de_var 5)) (dss_kill 3 (dss_kill 4 (dss_kill 5 dss_nil)))))) (dss_cons (ds_retOw 2) dss_nil))))
theorem sc_73 : FnScope nm_73 ["tin", "goods_so", "count_so"] (defScope st_73) := ⟨rfl, rfl, rfl, by decide +kernel, rfl, by decide +kernel, by decide +kernel⟩
theorem d_73 (G : Mg fas mg) (hr : Room n (A.deeper (envOfC "_law_pick" (defScope st_73) s.heap.objs.size (fas.getD 73 0) cdv))) (hE : HeldX Φ frT (gm K fas cas) (cxOf (L2.CX P w) P w K mg base nm_73 "_law_pick" (defScope st_73) (fas.getD 73 0) cdv A outer s H E)) : DSs Φ 4000 (gm K fas cas) (fun c d _ H => E c d H) (frT 73) true (cxOf (L2.CX P w) P w K mg base nm_73 "_law_pick" (defScope st_73) (fas.getD 73 0) cdv A outer s H E) (defBody st_73) co_73 :=
  have S := sc_73; have tk : L2.Takes (cxOf (L2.CX P w) P w K mg base nm_73 "_law_pick" (defScope st_73) (fas.getD 73 0) cdv A outer s H E) (fun c d _ H => E c d H) := takes_of rfl rfl rfl rfl; have hp := passes_of (X := (cxOf (L2.CX P w) P w K mg base nm_73 "_law_pick" (defScope st_73) (fas.getD 73 0) cdv A outer s H E)) rfl; (
    (dss_cons (ds_par 3 4 true true rfl S.nd (de_t1 (p := .list) (c_list rfl _) G.b_list (bt_list) (de_var 1)) (de_lst da_nil)) (dss_cons (ds_for hp rfl (di_rng1 (de_b2 (p := .min) (c_min2 rfl _ rfl) G.b_min (bt_min) (de_t1 (p := .int) (c_int rfl _) G.b_int (bt_int) (de_var 2)) (de_b1 (p := .len) (c_len rfl _) G.b_len (bt_len) (dg_b 3))) (hm := G.b_range)) (dtg_n 5 S.nd) (dss_cons (ds_app 4 (de_popAt 3 (de_callT 71 0 hE tk (da_cons (de_b1 (p := .len) (c_len rfl _) G.b_len (bt_len) (dg_b 3)) da_nil) (hm := G.f_71)))) (dss_kill 5 dss_nil))) (dss_cons (ds_retOw 4) dss_nil))))
theorem sc_74 : FnScope nm_74 ["got", "due"] (defScope st_74) := ⟨rfl, rfl, rfl, by decide +kernel, rfl, by decide +kernel, by decide +kernel⟩
theorem d_74 (G : Mg fas mg) (hr : Room n (A.deeper (envOfC "_law_same" (defScope st_74) s.heap.objs.size (fas.getD 74 0) cdv))) (hE : HeldX Φ frT (gm K fas cas) (cxOf (L2.CX P w) P w K mg base nm_74 "_law_same" (defScope st_74) (fas.getD 74 0) cdv A outer s H E)) : DSs Φ 4000 (gm K fas cas) (fun c d _ H => E c d H) (frT 74) false (cxOf (L2.CX P w) P w K mg base nm_74 "_law_same" (defScope st_74) (fas.getD 74 0) cdv A outer s H E) (defBody st_74) co_74 :=
  have S := sc_74; have tk : L2.Takes (cxOf (L2.CX P w) P w K mg base nm_74 "_law_same" (defScope st_74) (fas.getD 74 0) cdv A outer s H E) (fun c d _ H => E c d H) := takes_of rfl rfl rfl rfl; have hp := passes_of (X := (cxOf (L2.CX P w) P w K mg base nm_74 "_law_same" (defScope st_74) (fas.getD 74 0) cdv A outer s H E)) rfl; (
    (dss_cons (ds_if (dt_of (de_isi2 "list" "tuple" rfl (hmt := G.b_list) (hmt2 := G.b_tuple) (hm := G.b_isinstance) (ha := (de_var 1)))) (dss_cons (ds_if (dt_w (dw_or (dt_cmp (p := .ne) (r_ne rfl _ hr.units) (de_isi "list" rfl (hmt := G.b_list) (hm := G.b_isinstance) (ha := (de_var 0))) (de_isi "list" rfl (hmt := G.b_list) (hm := G.b_isinstance) (ha := (de_var 1)))) (dt_one (dt_cmp (p := .ne) (r_ne rfl _ hr.units) (de_isi "tuple" rfl (hmt := G.b_tuple) (hm := G.b_isinstance) (ha := (de_var 0))) (de_isi "tuple" rfl (hmt := G.b_tuple) (hm := G.b_isinstance) (ha := (de_var 1))))))) (dss_cons (ds_ret de_bl) dss_nil) dss_nil) (dss_cons (ds_ret (de_and (de_cmp (p := .eq) (r_eq rfl _ hr.units) (de_b1 (p := .len) (c_len rfl _) G.b_len (bt_len) (de_var 0)) (de_b1 (p := .len) (c_len rfl _) G.b_len (bt_len) (de_var 1))) (de_one (de_b1 (p := .all) (c_all rfl _ rfl) G.b_all (bt_all) (de_comp (own := [("mine", 2), ("its", 3)]) rfl S.nd (di_zip (de_var 0) (de_var 1) (hm := G.b_zip)) (blkOk_by (by rfl)) (fun _ _ _ _ _ => (dtg_ts rfl rfl (dtgs_cons 2 (dtgs_cons 3 dtgs_nil S.nd) S.nd))) (fun _ _ _ _ _ => dts_nil) (fun _ _ _ _ _ => (de_call 74 hE takes0 (da_cons (de_var 2) (da_cons (de_var 3) da_nil)) (hm := G.f_74)))))))) dss_nil)) dss_nil) (dss_cons (ds_if (dt_isN (de_var 1)) (dss_cons (ds_ret (de_isN (de_var 0))) dss_nil) dss_nil) (dss_cons (ds_if (dt_of (de_isi2 "bool" "str" rfl (hmt := G.b_bool) (hmt2 := G.b_str) (hm := G.b_isinstance) (ha := (de_var 1)))) (dss_cons (ds_ret (de_and (de_cmp (p := .eq) (r_eq rfl _ hr.units) (de_isi "bool" rfl (hmt := G.b_bool) (hm := G.b_isinstance) (ha := (de_var 0))) (de_isi "bool" rfl (hmt := G.b_bool) (hm := G.b_isinstance) (ha := (de_var 1)))) (de_and (de_cmp (p := .eq) (r_eq rfl _ hr.units) (de_isi "str" rfl (hmt := G.b_str) (hm := G.b_isinstance) (ha := (de_var 0))) (de_isi "str" rfl (hmt := G.b_str) (hm := G.b_isinstance) (ha := (de_var 1)))) (de_one (de_cmp (p := .eq) (r_eq rfl _ hr.units) (de_var 0) (de_var 1)))))) dss_nil) dss_nil) (dss_cons (ds_ret (de_and (de_isi "int" rfl (hmt := G.b_int) (hm := G.b_isinstance) (ha := (de_var 0))) (de_and (de_not (de_isi "bool" rfl (hmt := G.b_bool) (hm := G.b_isinstance) (ha := (de_var 0)))) (de_one (de_cmp (p := .eq) (r_eq rfl _ hr.units) (de_var 0) (de_var 1)))))) dss_nil)))))
theorem sc_75 : FnScope nm_75 ["door", "goods_so"] (defScope st_75) := ⟨rfl, rfl, rfl, by decide +kernel, rfl, by decide +kernel, by decide +kernel⟩
theorem d_75 (G : Mg fas mg) (hr : Room n (A.deeper (envOfC "_law_call" (defScope st_75) s.heap.objs.size (fas.getD 75 0) cdv))) (hE : HeldX Φ frT (gm K fas cas) (cxOf (L2.CX P w) P w K mg base nm_75 "_law_call" (defScope st_75) (fas.getD 75 0) cdv A outer s H E)) : DSs Φ 4000 (gm K fas cas) (fun c d _ H => E c d H) (frT 75) false (cxOf (L2.CX P w) P w K mg base nm_75 "_law_call" (defScope st_75) (fas.getD 75 0) cdv A outer s H E) (defBody st_75) co_75 :=
  have S := sc_75; have tk : L2.Takes (cxOf (L2.CX P w) P w K mg base nm_75 "_law_call" (defScope st_75) (fas.getD 75 0) cdv A outer s H E) (fun c d _ H => E c d H) := takes_of rfl rfl rfl rfl; have hp := passes_of (X := (cxOf (L2.CX P w) P w K mg base nm_75 "_law_call" (defScope st_75) (fas.getD 75 0) cdv A outer s H E)) rfl; (
    (dss_cons (ds_if (dt_cmp (p := .eq) (r_eq rfl _ hr.units) (de_b1 (p := .len) (c_len rfl _) G.b_len (bt_len) (de_var 1)) de_int) (dss_cons (ds_ret (de_callV 0 hE tk (da_cons (de_ix rfl (de_var 1) de_int) da_nil))) dss_nil) dss_nil) (dss_cons (ds_if (dt_cmp (p := .eq) (r_eq rfl _ hr.units) (de_b1 (p := .len) (c_len rfl _) G.b_len (bt_len) (de_var 1)) de_int) (dss_cons (ds_ret (de_callV 0 hE tk (da_cons (de_ix rfl (de_var 1) de_int) (da_cons (de_ix rfl (de_var 1) de_int) da_nil)))) dss_nil) dss_nil) (dss_cons (ds_if (dt_cmp (p := .eq) (r_eq rfl _ hr.units) (de_b1 (p := .len) (c_len rfl _) G.b_len (bt_len) (de_var 1)) de_int) (dss_cons (ds_ret (de_callV 0 hE tk (da_cons (de_ix rfl (de_var 1) de_int) (da_cons (de_ix rfl (de_var 1) de_int) (da_cons (de_ix rfl (de_var 1) de_int) da_nil))))) dss_nil) dss_nil) (dss_cons (ds_if (dt_cmp (p := .eq) (r_eq rfl _ hr.units) (de_b1 (p := .len) (c_len rfl _) G.b_len (bt_len) (de_var 1)) de_int) (dss_cons (ds_ret (de_callV 0 hE tk (da_cons (de_ix rfl (de_var 1) de_int) (da_cons (de_ix rfl (de_var 1) de_int) (da_cons (de_ix rfl (de_var 1) de_int) (da_cons (de_ix rfl (de_var 1) de_int) da_nil)))))) dss_nil) dss_nil) (dss_cons (ds_ret (de_callV 0 hE tk (da_cons (de_ix rfl (de_var 1) de_int) (da_cons (de_ix rfl (de_var 1) de_int) (da_cons (de_ix rfl (de_var 1) de_int) (da_cons (de_ix rfl (de_var 1) de_int) (da_cons (de_ix rfl (de_var 1) de_int) da_nil))))))) dss_nil))))))
theorem sc_76 : FnScope nm_76 ["script"] (defScope st_76) := ⟨rfl, rfl, rfl, by decide +kernel, rfl, by decide +kernel, by decide +kernel⟩
theorem d_76 (G : Mg fas mg) (hr : Room n (A.deeper (envOfC "law" (defScope st_76) s.heap.objs.size (fas.getD 76 0) cdv))) (hE : HeldX Φ frT (gm K fas cas) (cxOf (L2.CX P w) P w K mg base nm_76 "law" (defScope st_76) (fas.getD 76 0) cdv A outer s H E)) : DSs Φ 4000 (gm K fas cas) (fun c d _ H => E c d H) (frT 76) false (cxOf (L2.CX P w) P w K mg base nm_76 "law" (defScope st_76) (fas.getD 76 0) cdv A outer s H E) (defBody st_76) co_76 :=
  have S := sc_76; have tk : L2.Takes (cxOf (L2.CX P w) P w K mg base nm_76 "law" (defScope st_76) (fas.getD 76 0) cdv A outer s H E) (fun c d _ H => E c d H) := takes_of rfl rfl rfl rfl; have hp := passes_of (X := (cxOf (L2.CX P w) P w K mg base nm_76 "law" (defScope st_76) (fas.getD 76 0) cdv A outer s H E)) rfl; (
    (dss_cons (ds_setOw 1 S.nd (de_call 70 hE tk (da_cons (de_call 72 hE tk (da_cons (de_var 0) (da_cons de_int da_nil)) (hm := G.f_72)) (da_cons de_int da_nil)) (hm := G.f_70))) (dss_cons (ds_asg (de_tup (da_cons (de_tup (da_cons de_int (da_cons (de_tup (da_cons (de_tup (da_cons de_int (da_cons de_int da_nil))) (da_cons (de_tup (da_cons de_int (da_cons de_int da_nil))) (da_cons (de_tup (da_cons de_int (da_cons de_int da_nil))) (da_cons (de_tup (da_cons de_int (da_cons de_int da_nil))) da_nil))))) da_nil))) (da_cons (de_tup (da_cons de_int (da_cons (de_tup (da_cons (de_tup (da_cons de_int (da_cons de_int da_nil))) (da_cons (de_tup (da_cons de_int (da_cons de_int da_nil))) (da_cons (de_tup (da_cons de_int (da_cons de_int da_nil))) da_nil)))) da_nil))) (da_cons (de_tup (da_cons de_int (da_cons (de_tup (da_cons (de_tup (da_cons de_int (da_cons de_int da_nil))) da_nil)) da_nil))) da_nil)))) (dtg_ts rfl rfl (dtgs_cons 2 (dtgs_cons 3 (dtgs_cons 4 dtgs_nil S.nd) S.nd) S.nd))) (dss_cons (ds_set 5 S.nd (de_lst (da_cons (de_tup (da_cons (de_gfn 22 G.f_22) (da_cons (de_tup da_nil) (da_cons (de_var 3) da_nil)))) (da_cons (de_tup (da_cons (de_gfn 23 G.f_23) (da_cons (de_tup (da_cons (de_var 3) (da_cons de_int da_nil))) (da_cons (de_tup (da_cons de_int (da_cons de_int (da_cons de_int da_nil)))) da_nil)))) (da_cons (de_tup (da_cons (de_gfn 48 G.f_48) (da_cons (de_tup da_nil) (da_cons (de_tup (da_cons de_int (da_cons de_int da_nil))) da_nil)))) (da_cons (de_tup (da_cons (de_gfn 49 G.f_49) (da_cons (de_tup (da_cons (de_var 3) (da_cons (de_tup (da_cons de_int (da_cons de_int da_nil))) da_nil))) (da_cons (de_tup (da_cons de_int (da_cons de_int (da_cons de_int da_nil)))) da_nil)))) (da_cons (de_tup (da_cons (de_gfn 51 G.f_51) (da_cons (de_tup (da_cons (de_var 3) (da_cons (de_tup (da_cons de_int (da_cons de_int da_nil))) da_nil))) (da_cons (de_tup (da_cons de_int (da_cons de_int (da_cons de_int da_nil)))) da_nil)))) (da_cons (de_tup (da_cons (de_gfn 50 G.f_50) (da_cons (de_tup (da_cons (de_var 3) (da_cons (de_tup (da_cons de_int (da_cons de_int da_nil))) (da_cons (de_tup (da_cons de_int (da_cons de_int (da_cons de_int da_nil)))) da_nil)))) (da_cons (de_tup (da_cons (de_tup (da_cons de_int (da_cons de_int da_nil))) da_nil)) da_nil)))) da_nil)))))))) (dss_cons (ds_set 5 S.nd (de_bin (p := .add) (r_add rfl _) (de_var 5) (de_lst (da_cons (de_tup (da_cons (de_gfn 58 G.f_58) (da_cons (de_tup da_nil) (da_cons (de_tup (da_cons de_int (da_cons de_int da_nil))) da_nil)))) (da_cons (de_tup (da_cons (de_gfn 59 G.f_59) (da_cons (de_tup (da_cons (de_var 3) (da_cons (de_tup (da_cons de_int (da_cons de_int da_nil))) da_nil))) (da_cons (de_tup (da_cons de_int (da_cons de_int (da_cons de_int da_nil)))) da_nil)))) (da_cons (de_tup (da_cons (de_gfn 60 G.f_60) (da_cons (de_tup (da_cons (de_var 3) (da_cons (de_tup (da_cons de_int (da_cons de_int da_nil))) (da_cons (de_tup (da_cons de_int (da_cons de_int (da_cons de_int da_nil)))) da_nil)))) (da_cons (de_tup (da_cons (de_tup (da_cons de_int (da_cons de_int da_nil))) da_nil)) da_nil)))) (da_cons (de_tup (da_cons (de_gfn 67 G.f_67) (da_cons (de_tup (da_cons (de_var 4) da_nil)) (da_cons (de_tup (da_cons (de_tup (da_cons de_int (da_cons de_int da_nil))) (da_cons (de_tup (da_cons de_int (da_cons de_int da_nil))) da_nil))) da_nil)))) (da_cons (de_tup (da_cons (de_gfn 68 G.f_68) (da_cons (de_tup (da_cons (de_var 2) (da_cons (de_tup (da_cons de_int (da_cons de_int (da_cons de_int (da_cons de_int da_nil))))) da_nil))) (da_cons (de_tup (da_cons de_int (da_cons de_int da_nil))) da_nil)))) da_nil)))))))) (dss_cons (ds_set 5 S.nd (de_bin (p := .add) (r_add rfl _) (de_var 5) (de_lst (da_cons (de_tup (da_cons (de_gfn 69 G.f_69) (da_cons (de_tup (da_cons (de_var 2) (da_cons (de_tup (da_cons (de_bin (p := .mul) (r_mul rfl _) (de_tup (da_cons de_int da_nil)) de_int) (da_cons (de_bin (p := .mul) (r_mul rfl _) (de_tup (da_cons de_int da_nil)) de_int) da_nil))) da_nil))) (da_cons (de_tup (da_cons de_int (da_cons de_int da_nil))) da_nil)))) (da_cons (de_tup (da_cons (de_gfn 30 G.f_30) (da_cons (de_tup (da_cons (de_var 3) da_nil)) (da_cons (de_tup (da_cons de_int (da_cons de_int (da_cons de_int da_nil)))) da_nil)))) (da_cons (de_tup (da_cons (de_gfn 31 G.f_31) (da_cons (de_tup (da_cons (de_var 3) (da_cons (de_tup (da_cons de_int (da_cons de_int (da_cons de_int da_nil)))) da_nil))) (da_cons (de_tup (da_cons de_int da_nil)) da_nil)))) (da_cons (de_tup (da_cons (de_gfn 33 G.f_33) (da_cons (de_tup (da_cons (de_var 3) da_nil)) (da_cons (de_tup (da_cons de_int da_nil)) da_nil)))) (da_cons (de_tup (da_cons (de_gfn 35 G.f_35) (da_cons (de_tup (da_cons (de_var 4) (da_cons (de_tup (da_cons de_int (da_cons de_int da_nil))) da_nil))) (da_cons (de_tup (da_cons de_int (da_cons de_int da_nil))) da_nil)))) da_nil)))))))) (dss_cons (ds_set 5 S.nd (de_bin (p := .add) (r_add rfl _) (de_var 5) (de_lst (da_cons (de_tup (da_cons (de_gfn 39 G.f_39) (da_cons (de_tup (da_cons (de_var 3) da_nil)) (da_cons (de_tup (da_cons de_int (da_cons de_int da_nil))) da_nil)))) (da_cons (de_tup (da_cons (de_gfn 40 G.f_40) (da_cons (de_tup (da_cons (de_var 3) da_nil)) (da_cons (de_tup (da_cons de_int (da_cons de_int (da_cons de_int da_nil)))) da_nil)))) da_nil))))) (dss_cons (ds_for hp rfl (di_c rfl (de_var 5)) (dtg_ts rfl rfl (dtgs_cons 6 (dtgs_cons 7 (dtgs_cons 8 dtgs_nil S.nd) S.nd) S.nd)) (dss_cons (ds_if (dt_not (dt_of (de_call 74 hE tk (da_cons (de_call 75 hE tk (da_cons (de_var 6) (da_cons (de_bin (p := .add) (r_add rfl _) (de_var 7) (de_tup (da_cons (de_var 8) da_nil))) da_nil)) (hm := G.f_75)) (da_cons de_bl da_nil)) (hm := G.f_74)))) (dss_cons (ds_ret de_bl) dss_nil) dss_nil) (dss_cons (ds_setOw 9 S.nd (de_lst (da_cons (de_t1 (p := .list) (c_list rfl _) G.b_list (bt_list) (de_var 8)) (da_cons (de_bin (p := .add) (r_add rfl _) (de_var 8) (de_tup (da_cons de_non da_nil))) (da_cons (de_bin (p := .add) (r_add rfl _) (de_var 8) (de_tup (da_cons de_str da_nil))) (da_cons (de_tup (da_cons (de_var 8) da_nil)) (da_cons (de_lst (da_cons (de_var 8) da_nil)) (da_cons de_non da_nil)))))))) (dss_cons (ds_for hp rfl (di_rng1 (de_b1 (p := .len) (c_len rfl _) G.b_len (bt_len) (de_var 8)) (hm := G.b_range)) (dtg_n 10 S.nd) (dss_cons (ds_for hp rfl (di_c rfl (de_tup (da_cons de_str (da_cons (de_un (p := .neg) (c_neg rfl _) de_int) (da_cons (de_lst (da_cons (de_ix rfl (de_var 8) (de_var 10)) da_nil)) (da_cons (de_tup (da_cons (de_ix rfl (de_var 8) (de_var 10)) (da_cons (de_ix rfl (de_var 8) (de_var 10)) (da_cons (de_ix rfl (de_var 8) (de_var 10)) da_nil)))) da_nil)))))) (dtg_n 11 S.nd) (dss_cons (ds_app 9 (de_bin (p := .add) (r_add rfl _) (de_bin (p := .add) (r_add rfl _) (de_slice rfl (de_var 8) dp_no (dp_c (de_var 10))) (de_tup (da_cons (de_var 11) da_nil))) (de_slice rfl (de_var 8) (dp_c (de_bin (p := .add) (r_add rfl _) (de_var 10) de_int)) dp_no))) (dss_kill 11 dss_nil))) (dss_kill 10 (dss_kill 11 dss_nil)))) (dss_frz 9 (dss_cons (ds_for hp rfl (di_c rfl (de_callT 73 1 hE tk (da_cons (dg_b 9) (da_cons de_int da_nil)) (hm := G.f_73))) (dtg_n 12 S.nd) (dss_cons (ds_if (dt_not (dt_of (de_call 74 hE tk (da_cons (de_call 75 hE tk (da_cons (de_var 6) (da_cons (de_bin (p := .add) (r_add rfl _) (de_var 7) (de_tup (da_cons (de_var 12) da_nil))) da_nil)) (hm := G.f_75)) (da_cons de_bl da_nil)) (hm := G.f_74)))) (dss_cons (ds_ret de_bl) dss_nil) dss_nil) (dss_kill 12 dss_nil))) (dss_kill 6 (dss_kill 7 (dss_kill 8 (dss_kill 9 (dss_kill 10 (dss_kill 11 (dss_kill 12 dss_nil))))))))))))) (dss_cons (ds_set 13 S.nd (de_lst (da_cons de_non (da_cons de_bl (da_cons de_str (da_cons de_str (da_cons (de_un (p := .neg) (c_neg rfl _) de_int) (da_cons (de_un (p := .neg) (c_neg rfl _) (de_bin (p := .pow) (r_pow rfl _) de_int de_int)) (da_cons (de_lst da_nil) (da_cons (de_lst (da_cons (de_lst da_nil) da_nil)) (da_cons (de_tup (da_cons de_non da_nil)) (da_cons (de_tup (da_cons de_str (da_cons de_int da_nil))) (da_cons (de_tup (da_cons (de_tup (da_cons de_bl da_nil)) da_nil)) (da_cons (de_lst (da_cons (de_tup (da_cons de_int da_nil)) da_nil)) (da_cons (de_tup (da_cons (de_var 2) (da_cons (de_var 3) da_nil))) (da_cons (de_tup (da_cons de_int (da_cons de_int da_nil))) (da_cons (de_tup (da_cons de_str (da_cons (de_tup (da_cons de_str da_nil)) da_nil))) da_nil))))))))))))))))) (dss_cons (ds_set 14 S.nd (de_tup da_nil)) (dss_cons (ds_for hp rfl (di_rng1 de_int (hm := G.b_range)) (dtg_n 15 S.nd) (dss_cons (ds_set 14 S.nd (de_tup (da_cons (de_var 14) (da_cons (de_var 15) da_nil)))) (dss_kill 15 dss_nil))) (dss_cons (ds_for hp rfl (di_c rfl (de_callT 73 1 hE tk (da_cons (de_var 5) (da_cons de_int da_nil)) (hm := G.f_73))) (dtg_ts rfl rfl (dtgs_cons 6 (dtgs_cons 7 (dtgs_cons 8 dtgs_nil S.nd) S.nd) S.nd)) (dss_cons (ds_for hp rfl (di_c rfl (de_bin (p := .add) (r_add rfl _) (de_var 13) (de_lst (da_cons (de_var 14) da_nil)))) (dtg_n 16 S.nd) (dss_cons (ds_if (dt_not (dt_of (de_call 74 hE tk (da_cons (de_call 75 hE tk (da_cons (de_var 6) (da_cons (de_bin (p := .add) (r_add rfl _) (de_var 7) (de_tup (da_cons (de_var 16) da_nil))) da_nil)) (hm := G.f_75)) (da_cons de_bl da_nil)) (hm := G.f_74)))) (dss_cons (ds_ret de_bl) dss_nil) dss_nil) (dss_kill 16 dss_nil))) (dss_kill 6 (dss_kill 7 (dss_kill 8 (dss_kill 16 dss_nil)))))) (dss_cons (ds_ret de_bl) dss_nil)))))))))))))
end
end Lw
namespace Lw
open PySem PySem.Spec PyProof.Rows L2 Pv
/-! ## The law's own helpers, by their codes -/
theorem mul_r {i j : Int} (h : small j = true) : pMul (.int i) (.int j) = some (.int (i * j)) := by
  show (if (small i || small j) = true then some (D.int (i * j)) else none) = _
  rw [h, Bool.or_true, if_pos rfl]
theorem mul_l {i j : Int} (h : small i = true) : pMul (.int i) (.int j) = some (.int (i * j)) := by
  show (if (small i || small j) = true then some (D.int (i * j)) else none) = _
  rw [h, Bool.true_or, if_pos rfl]
theorem small_of {i : Int} (h0 : -(2 ^ 64) < i) (h1 : i < 2 ^ 64) : small i = true := by
  unfold small
  rw [decide_eq_true h0, decide_eq_true h1]
  rfl
theorem mod_p {i j : Int} (h : 0 < j) : pMod (.int i) (.int j) = some (.int (i % j)) := by
  show (if 0 < j then some (D.int (i % j)) else none) = _
  rw [if_pos h]
theorem div_p {i j : Int} (h : 0 < j) (h2 : j < 1073741824) : pDiv (.int i) (.int j) = some (.int (i / j)) := by
  show (if 0 < j ∧ j < 1073741824 then some (D.int (i / j)) else none) = _
  rw [if_pos ⟨h, h2⟩]
variable {Φ : Orc} {M : Nat}
theorem take_ok {a b c n : Int} (ha : 0 ≤ a) (hb : 0 ≤ b) (hb2 : b < 2 ^ 62) (hc : 0 ≤ c) (hc2 : c < 2 ^ 60) (hn : 0 < n) (hn2 : n < 1073741824) :
    ∃ r a' c', endOf true (evSs Φ M co_71 (entry ⟨true, 1, 6, co_71⟩ (some [.int a, .int b, .int c]) [.int n])) = .ok (.int r) (some [.int a', .int b, .int c']) ∧ 0 ≤ r ∧ r < n ∧ 0 ≤ a' ∧ c ≤ c' ∧ c' ≤ c + 1 := by
  by_cases h : 0 < a
  · refine ⟨a % n, a / n, c, ?_, Int.emod_nonneg _ (by omega), Int.emod_lt_of_pos _ hn, Int.ediv_nonneg ha (by omega), Int.le_refl _, by omega⟩
    have t1 : pGt (.int a) (.int 0) = some (.bl true) := by show some (D.bl (decide (0 < a))) = _; rw [decide_eq_true h]
    show endOf true (evSs Φ M co_71 [.ow [.int a, .int b, .int c], .sh (.int n), .un, .un, .un, .un]) = _
    unfold co_71
    simp [evSs, evS, ev, evG, evAs, R.bind, opt, vget, p2, p1, pIx, atI, ixN, truth, t1, mod_p hn, div_p hn hn2, putO, isOwE, owD, ownAt, endOf]
  · have c1 : ∃ c1, c1 = c + 1 := ⟨_, rfl⟩
    obtain ⟨c1, hc1⟩ := c1
    obtain ⟨o, ho⟩ : ∃ o, o = ((b + 48271 * c1) * (39373 + c1)) % 2147483647 := ⟨_, rfl⟩
    have o0 : 0 ≤ o := by rw [ho]; exact Int.emod_nonneg _ (by decide)
    have o1 : o < 2147483647 := by rw [ho]; exact Int.emod_lt_of_pos _ (by decide)
    obtain ⟨w, hw⟩ : ∃ w, w = o % 40009 + 7 := ⟨_, rfl⟩
    have w0 : 0 ≤ o % 40009 := Int.emod_nonneg _ (by decide)
    have w1 : o % 40009 < 40009 := Int.emod_lt_of_pos _ (by decide)
    obtain ⟨t, ht⟩ : ∃ t, t = ((o + c1 + b / 1000003) * w) % 2147483629 := ⟨_, rfl⟩
    have t1 : pGt (.int a) (.int 0) = some (.bl false) := by show some (D.bl (decide (0 < a))) = _; rw [decide_eq_false h]
    have m1 : pMul (.int 48271) (.int c1) = some (.int (48271 * c1)) := mul_l (by decide)
    have m2 : pMul (.int (b + 48271 * c1)) (.int (39373 + c1)) = some (.int ((b + 48271 * c1) * (39373 + c1))) := mul_r (small_of (by omega) (by omega))
    have m3 : pMul (.int (o + c1 + b / 1000003)) (.int w) = some (.int ((o + c1 + b / 1000003) * w)) := mul_r (small_of (by omega) (by omega))
    have m4 : pMul (.int t) (.int 48271) = some (.int (t * 48271)) := mul_r (by decide)
    have d1 : pMod (.int ((b + 48271 * c1) * (39373 + c1))) (.int 2147483647) = some (.int o) := by rw [ho]; exact mod_p (by decide)
    have d2 : pMod (.int o) (.int 40009) = some (.int (o % 40009)) := mod_p (by decide)
    have d3 : pMod (.int ((o + c1 + b / 1000003) * w)) (.int 2147483629) = some (.int t) := by rw [ht]; exact mod_p (by decide)
    have d4 : pMod (.int (t * 48271 + o)) (.int 2147483587) = some (.int ((t * 48271 + o) % 2147483587)) := mod_p (by decide)
    have v1 : pDiv (.int b) (.int 1000003) = some (.int (b / 1000003)) := div_p (by decide) (by decide)
    have v2 : pDiv (.int ((t * 48271 + o) % 2147483587)) (.int 64) = some (.int ((t * 48271 + o) % 2147483587 / 64)) := div_p (by decide) (by decide)
    refine ⟨((t * 48271 + o) % 2147483587 / 64) % n, a, c1, ?_, Int.emod_nonneg _ (by omega), Int.emod_lt_of_pos _ hn, ha, by omega, by omega⟩
    show endOf true (evSs Φ M co_71 [.ow [.int a, .int b, .int c], .sh (.int n), .un, .un, .un, .un]) = _
    unfold co_71
    have e1 : pAdd (.int c) (.int 1) = some (.int c1) := by rw [hc1]; rfl
    have e2 : pAdd (.int (o % 40009)) (.int 7) = some (.int w) := by rw [hw]; rfl
    have e3 : ∀ x y : Int, pAdd (.int x) (.int y) = some (.int (x + y)) := fun _ _ => rfl
    simp [evSs, evS, ev, evG, evAs, R.bind, opt, vget, p2, p1, pIx, atI, ixN, truth, t1, m1, m2, m3, m4, d1, d2, d3, d4, v1, v2, e1, e2, e3, mod_p hn, putO, isOwE, owD, ownAt, endOf]
theorem go_nx {s : S} {r : Ss} {e e1 : Sl} (h : evS Φ M s e = .ok .nx e1) : evSs Φ M (.cons s r) e = evSs Φ M r e1 := by
  show (evS Φ M s e).bind _ = _
  rw [h]
  rfl
theorem go_rt {s : S} {r : Ss} {e e1 : Sl} {d : D} (h : evS Φ M s e = .ok (.rt d) e1) : evSs Φ M (.cons s r) e = .ok (.rt d) e1 := by
  show (evS Φ M s e).bind _ = _
  rw [h]
  rfl
theorem go_for {it : Pv.It} {g : Tg} {b : Ss} {e e1 : Sl} {l : List D} (h : evI Φ it e = .ok l e1) : evS Φ M (.forS it g b) e = forGo (fun d e => put e g d) (evSs Φ M b) l e1 := by
  rw [evS, h]
  rfl
structure Good (a b c : Int) : Prop where
  a0 : 0 ≤ a
  b0 : 0 ≤ b
  b1 : b < 2 ^ 62
  c0 : 0 ≤ c
def TakeOk (Φ : Orc) : Prop := ∀ a b c n : Int, Good a b c → c < 2 ^ 60 → 0 < n → n < 1073741824 → ∃ r a' c', Φ 71 (some [.int a, .int b, .int c]) [.int n] = .ok (.int r) (some [.int a', .int b, .int c']) ∧ 0 ≤ r ∧ r < n ∧ Good a' b c' ∧ c' ≤ c + 1
abbrev bodyP : Ss := .cons (.app 4 (.popAt 3 (.callT false 71 0 (.cons (.c (.op1 .len (.b 3))) .nil)))) (.cons (.kill 5) .nil)
theorem pick_lap {l : List D} {m : D} {pool found : List D} {a b c : Int} {x : D} {u : Ent} (hT : TakeOk Φ) (G : Good a b c) (hc : c < 2 ^ 60) (hp : 0 < pool.length) (hp2 : pool.length < 1073741824) (hf : found.length < LIM) (hu : isOwE u = false) :
    ∃ (k : Nat) (d : D) (a' c' : Int), pool[k]? = some d ∧ (opt (put1 [.ow [.int a, .int b, .int c], .sh (.lst l), .sh m, .ow pool, .ow found, u] 5 x) [.ow [.int a, .int b, .int c], .sh (.lst l), .sh m, .ow pool, .ow found, u]).bind (fun e1 _ => evSs Φ M bodyP e1) =
      .ok .nx [.ow [.int a', .int b, .int c'], .sh (.lst l), .sh m, .ow (pool.eraseIdx k), .ow (found ++ [d]), .un] ∧ Good a' b c' ∧ c' ≤ c + 1 := by
  obtain ⟨r, a', c', h1, h2, h3, h4, h5⟩ := hT a b c pool.length G hc (by omega) (by omega)
  have hk : r.toNat < pool.length := by omega
  have hd : pool[r.toNat]? = some pool[r.toNat] := List.getElem?_eq_getElem hk
  refine ⟨r.toNat, pool[r.toNat], a', c', hd, ?_, h4, h5⟩
  have hput : put1 [.ow [.int a, .int b, .int c], .sh (.lst l), .sh m, .ow pool, .ow found, u] 5 x = some [.ow [.int a, .int b, .int c], .sh (.lst l), .sh m, .ow pool, .ow found, .sh x] := by
    cases u with
    | ow l => cases hu
    | un => rfl
    | sh d => rfl
  rw [hput]
  have hr2 : r < 2 ^ 62 := by omega
  have hr4 : r < 4611686018427387904 := by omega
  simp [evSs, evS, ev, evG, evAs, R.bind, opt, vget, vgets, p1, pLen, isOw, h1, hk, h2, h3, hr4, ownAt, hf]
theorem pick_go {l : List D} {m : D} (hT : TakeOk Φ) : ∀ (ls : List D) (pool found : List D) (a b c : Int) (u : Ent), Good a b c → c + ls.length < 2 ^ 60 → ls.length ≤ pool.length → pool.length < 1000000 → found.length + ls.length < 1000000 → isOwE u = false → (∀ d ∈ pool, d ∈ l) → (∀ d ∈ found, d ∈ l) →
    ∃ (pool' found' : List D) (a' c' : Int) (u' : Ent), forGo (fun d e => put e (.n 5) d) (evSs Φ M bodyP) ls [.ow [.int a, .int b, .int c], .sh (.lst l), .sh m, .ow pool, .ow found, u] = .ok .nx [.ow [.int a', .int b, .int c'], .sh (.lst l), .sh m, .ow pool', .ow found', u'] ∧ Good a' b c' ∧ c' ≤ c + ls.length ∧ ∀ d ∈ found', d ∈ l
  | [], pool, found, a, b, c, u, G, _, _, _, _, _, _, hf => ⟨pool, found, a, c, u, rfl, G, by simp, hf⟩
  | x :: ls, pool, found, a, b, c, u, G, hc, hl, hp, hfl, hu, hpl, hf => by
    rw [List.length_cons] at hc hl hfl
    obtain ⟨k, d, a', c', hk, h1, G', hc'⟩ := pick_lap (M := M) (l := l) (m := m) (found := found) (x := x) hT G (by omega) (show 0 < pool.length by omega) (by omega) (show found.length < LIM by unfold LIM; omega) hu
    have hkl := (List.getElem?_eq_some_iff.mp hk).1
    obtain ⟨pool', found', a2, c2, u2, h2, G2, hc2, hf2⟩ := pick_go hT ls (pool.eraseIdx k) (found ++ [d]) a' b c' .un G' (by omega) (by rw [List.length_eraseIdx_of_lt hkl]; omega) (by rw [List.length_eraseIdx_of_lt hkl]; omega) (by rw [List.length_append, List.length_singleton]; omega) rfl
      (fun y hy => hpl y (List.mem_of_mem_eraseIdx hy)) (fun y hy => by
        rcases List.mem_append.mp hy with z | z
        · exact hf y z
        · rw [List.mem_singleton.mp z]; exact hpl d (List.mem_of_getElem? hk))
    refine ⟨pool', found', a2, c2, u2, ?_, G2, by rw [List.length_cons]; omega, hf2⟩
    have e1 : forGo (fun d e => put e (.n 5) d) (evSs Φ M bodyP) (x :: ls) [.ow [.int a, .int b, .int c], .sh (.lst l), .sh m, .ow pool, .ow found, u] =
      ((opt (put1 [.ow [.int a, .int b, .int c], .sh (.lst l), .sh m, .ow pool, .ow found, u] 5 x) [.ow [.int a, .int b, .int c], .sh (.lst l), .sh m, .ow pool, .ow found, u]).bind (fun e1 _ => evSs Φ M bodyP e1)).bind fun f e2 => match f with
        | .nx => forGo (fun d e => put e (.n 5) d) (evSs Φ M bodyP) ls e2
        | .ct => forGo (fun d e => put e (.n 5) d) (evSs Φ M bodyP) ls e2
        | .bk => .ok .nx e2
        | .rt d => .ok (.rt d) e2 := by
      rw [Run.bindT]
      rfl
    rw [e1, h1]
    exact h2
theorem pick_ok {l : List D} {m a b c : Int} (hT : TakeOk Φ) (G : Good a b c) (hc : c < 2 ^ 59) (hl : l.length < 100000) (hm : 0 ≤ m) (hm2 : m < 100000) :
    ∃ (found : List D) (a' c' : Int), endOf true (evSs Φ M co_73 (entry ⟨true, 2, 6, co_73⟩ (some [.int a, .int b, .int c]) [.lst l, .int m])) = .ok (.lst found) (some [.int a', .int b, .int c']) ∧ (∀ d ∈ found, d ∈ l) ∧ Good a' b c' ∧ c' ≤ c + m := by
  have hmin : ∃ k : Int, 0 ≤ k ∧ k ≤ m ∧ k ≤ l.length ∧ p22 .min (.int m) (.int l.length) = some (.int k) := by
    by_cases h : (l.length : Int) < m
    · exact ⟨l.length, by omega, by omega, by omega, by show some (D.int (if (l.length : Int) < m then (l.length : Int) else m)) = _; rw [if_pos h]⟩
    · exact ⟨m, hm, by omega, by omega, by show some (D.int (if (l.length : Int) < m then (l.length : Int) else m)) = _; rw [if_neg h]⟩
  obtain ⟨k, k0, k1, k2, hk⟩ := hmin
  have hls : (rng 0 k).length = k.toNat := by unfold rng; rw [List.length_map, List.length_range]; simp
  obtain ⟨pool', found', a', c', u', h1, G', hc', hf⟩ := pick_go (M := M) (l := l) (m := .int m) hT (rng 0 k) l [] a b c .un G (by rw [hls]; omega) (by rw [hls]; omega) (by omega) (by rw [hls]; simp; omega) rfl (fun d h => h) (fun d h => by cases h)
  refine ⟨found', a', c', ?_, hf, G', by rw [hls] at hc'; omega⟩
  have hok : okR k = true := by unfold okR; rw [decide_eq_true (by omega), decide_eq_true (by omega)]; rfl
  have s2 : evI Φ (.rng1 (.op22 .min (.c (.op1 .int (.c (.var 2)))) (.c (.op1 .len (.b 3))))) [.ow [.int a, .int b, .int c], .sh (.lst l), .sh (.int m), .ow l, .ow [], .un] = .ok (rng 0 k) [.ow [.int a, .int b, .int c], .sh (.lst l), .sh (.int m), .ow l, .ow [], .un] := by
    simp [evI, ev, evG, R.bind, opt, vget, p1, pLen, hk, hok]
  have s3 : evS Φ M (.forS (.rng1 (.op22 .min (.c (.op1 .int (.c (.var 2)))) (.c (.op1 .len (.b 3))))) (.n 5) bodyP) [.ow [.int a, .int b, .int c], .sh (.lst l), .sh (.int m), .ow l, .ow [], .un] = .ok .nx [.ow [.int a', .int b, .int c'], .sh (.lst l), .sh (.int m), .ow pool', .ow found', u'] := by
    show (evI Φ _ _).bind _ = _
    rw [s2]
    exact h1
  show endOf true (evSs Φ M co_73 [.ow [.int a, .int b, .int c], .sh (.lst l), .sh (.int m), .un, .un, .un]) = _
  unfold co_73
  rw [go_nx (e1 := [.ow [.int a, .int b, .int c], .sh (.lst l), .sh (.int m), .ow l, .ow [], .un]) rfl, go_nx s3]
  rfl
theorem i1 (x : Int) : p1 .int (.int x) = some (.int x) := rfl
theorem i2 (b : Bool) : p1 .int (.bl b) = some (.int (if b then 1 else 0)) := rfl
theorem lenl (l : List D) : p1 .len (.lst l) = some (.int l.length) := rfl
theorem box_ok (x : Int) : ∃ a b : Int, endOf false (evSs Φ M co_70 (entry ⟨false, 2, 3, co_70⟩ none [.lst [.int x], .int 0])) = .ok (.lst [.int a, .int b, .int 0]) none ∧ Good a b 0 := by
  obtain ⟨A, hA⟩ : ∃ A : Int, A = if x < 0 then -x else x := ⟨_, rfl⟩
  have hA0 : 0 ≤ A := by
    rw [hA]
    by_cases h : x < 0
    · rw [if_pos h]; omega
    · rw [if_neg h]; omega
  have f1 : p1 .abs (.int x) = some (.int A) := by rw [hA]; rfl
  have f2 : pPow (.int 10) (.int 18) = some (.int 1000000000000000000) := by show (if (0 : Int) ≤ 18 ∧ (18 : Int) ≤ 1000000 ∧ (10 : Int).natAbs < 2 ^ 64 then some (D.int ((10 : Int) ^ (18 : Int).toNat)) else none) = _; rw [if_pos (by decide)]; rfl
  have f3 : pMod (.int x) (.int 2305843009213693951) = some (.int (x % 2305843009213693951)) := mod_p (by decide)
  have b0 : 0 ≤ x % 2305843009213693951 := Int.emod_nonneg _ (by decide)
  have b1 : x % 2305843009213693951 < 2305843009213693951 := Int.emod_lt_of_pos _ (by decide)
  have f4 : pMul (.int 39373) (.int 0) = some (.int 0) := rfl
  obtain ⟨k, hk⟩ : ∃ k : Bool, k = decide ((1000000000000000000 : Int) ≤ A) := ⟨_, rfl⟩
  have g1 : pGe (.int A) (.int 1000000000000000000) = some (.bl k) := by rw [hk]; rfl
  obtain ⟨y, hy, hy0⟩ : ∃ y : Int, pMul (.int A) (.int (if k then 1 else 0)) = some (.int y) ∧ 0 ≤ y := by
    cases k with
    | true => exact ⟨A * 1, mul_r (by decide), by omega⟩
    | false => exact ⟨A * 0, mul_r (by decide), by omega⟩
  refine ⟨y, x % 2305843009213693951 + 0 + 268850, ?_, ⟨hy0, by omega, by omega, by omega⟩⟩
  show endOf false (evSs Φ M co_70 [.sh (.lst [.int x]), .sh (.int 0), .un]) = _
  unfold co_70
  rw [go_nx (e1 := [.sh (.lst [.int x]), .sh (.int 0), .sh (.int x)]) rfl]
  simp [evSs, evS, ev, evG, evAs, R.bind, opt, vget, vgets, p2, pAdd, i1, i2, f1, f2, f3, f4, g1, hy, isOw, LIM, endOf]
abbrev bodyC : Ss := .cons (.set 5 (.op2 .mod (.c (.op1 .int (.c (.var 3)))) (.c (.var 1)))) (.cons (.subset 2 (.var 5) (.op2 .add (.c (.op2 .ix (.b 2) (.c (.var 5)))) (.c (.op2 .mul (.c (.var 4)) (.c (.op2 .add (.c (.var 3)) (.c (.con (.int 2))))))))) (.cons (.kill 3) (.cons (.kill 4) (.cons (.kill 5) .nil))))
theorem cell_go {S0 : D} : ∀ (L : List D) (z : Int) (u3 u4 u5 : Ent), (∀ d ∈ L, ∃ (j : Nat) (v : Int), d = .tup [.int (j : Nat), .int v] ∧ j < 1000000) → isOwE u3 = false → isOwE u4 = false → isOwE u5 = false →
    ∃ (z' : Int) (u3' u4' u5' : Ent), forGo (fun d e => put e (.ts [3, 4]) d) (evSs Φ M bodyC) L [.sh S0, .sh (.int 1), .ow [.int z], u3, u4, u5] = .ok .nx [.sh S0, .sh (.int 1), .ow [.int z'], u3', u4', u5']
  | [], z, u3, u4, u5, _, _, _, _ => ⟨z, u3, u4, u5, rfl⟩
  | d :: L, z, u3, u4, u5, h, h3, h4, h5 => by
    obtain ⟨j, v, rfl, hj⟩ := h d List.mem_cons_self
    have hput : put [.sh S0, .sh (.int 1), .ow [.int z], u3, u4, u5] (.ts [3, 4]) (.tup [.int (j : Nat), .int v]) = some [.sh S0, .sh (.int 1), .ow [.int z], .sh (.int (j : Nat)), .sh (.int v), u5] := by
      cases u3 <;> cases u4 <;> first | rfl | (cases h3; done) | (cases h4; done)
    have m0 : pMod (.int (j : Nat)) (.int 1) = some (.int 0) := by rw [mod_p (by decide), Int.emod_one]
    have m1 : pMul (.int v) (.int ((j : Nat) + 2)) = some (.int (v * ((j : Nat) + 2))) := mul_r (small_of (by omega) (by omega))
    have a1 : ∀ x y : Int, pAdd (.int x) (.int y) = some (.int (x + y)) := fun _ _ => rfl
    have s1 : evS Φ M (.set 5 (.op2 .mod (.c (.op1 .int (.c (.var 3)))) (.c (.var 1)))) [.sh S0, .sh (.int 1), .ow [.int z], .sh (.int (j : Nat)), .sh (.int v), u5] = .ok .nx [.sh S0, .sh (.int 1), .ow [.int z], .sh (.int (j : Nat)), .sh (.int v), .sh (.int 0)] := by
      cases u5 with
      | ow l => cases h5
      | un => simp [evS, ev, evG, R.bind, opt, vget, p2, i1, m0, putO, isOwE]
      | sh d => simp [evS, ev, evG, R.bind, opt, vget, p2, i1, m0, putO, isOwE]
    have s2 : evS Φ M (.subset 2 (.var 5) (.op2 .add (.c (.op2 .ix (.b 2) (.c (.var 5)))) (.c (.op2 .mul (.c (.var 4)) (.c (.op2 .add (.c (.var 3)) (.c (.con (.int 2))))))))) [.sh S0, .sh (.int 1), .ow [.int z], .sh (.int (j : Nat)), .sh (.int v), .sh (.int 0)] =
        .ok .nx [.sh S0, .sh (.int 1), .ow [.int (z + v * ((j : Nat) + 2))], .sh (.int (j : Nat)), .sh (.int v), .sh (.int 0)] := by
      simp [evS, ev, evG, R.bind, opt, vget, p2, a1, m1, pIx, atI, ixN, ownAt]
    obtain ⟨z', w3, w4, w5, hg⟩ := cell_go L (z + v * ((j : Nat) + 2)) .un .un .un (fun d hd => h d (List.mem_cons_of_mem _ hd)) rfl rfl rfl
    refine ⟨z', w3, w4, w5, ?_⟩
    show (opt (put _ (.ts [3, 4]) _) _).bind _ = _
    rw [hput]
    show (evSs Φ M bodyC _).bind _ = _
    rw [go_nx s1, go_nx s2]
    exact hg
theorem enum_all : ∀ (l : List D) (k : Nat), (∀ d ∈ l, ∃ v : Int, d = .int v) → ∀ d ∈ enumD k l, ∃ (j : Nat) (v : Int), d = .tup [.int (j : Nat), .int v] ∧ j < k + l.length
  | [], _, _, d, h => by cases h
  | x :: l, k, hl, d, h => by
    obtain ⟨v, rfl⟩ := hl x List.mem_cons_self
    rcases List.mem_cons.mp (show d ∈ (.tup [.int (k : Nat), .int v] : D) :: enumD (k + 1) l from h) with z | z
    · exact ⟨k, v, z, by rw [List.length_cons]; omega⟩
    · obtain ⟨j, w, e, hj⟩ := enum_all l (k + 1) (fun d hd => hl d (List.mem_cons_of_mem _ hd)) d z
      exact ⟨j, w, e, by rw [List.length_cons]; omega⟩
theorem cells_ok {ns : List Int} (hn : ns.length ≤ 63) : ∃ x : Int, endOf false (evSs Φ M co_72 (entry ⟨false, 2, 6, co_72⟩ none [.scr ns, .int 1])) = .ok (.lst [.int x]) none := by
  have hc : ∃ x : Int, evS Φ M (.setOw 2 (.or (.op1 .list (.c (.slice (.c (.var 0)) .no (.c (.var 1))))) (.lst (.cons (.c (.con (.int 0))) .nil)))) [.sh (.scr ns), .sh (.int 1), .un, .un, .un, .un] = .ok .nx [.sh (.scr ns), .sh (.int 1), .ow [.int x], .un, .un, .un] := by
    cases ns with
    | nil => exact ⟨0, rfl⟩
    | cons x r =>
      refine ⟨x, ?_⟩
      have c1 : pSlice none (some 1) (.scr (x :: r)) = some (.lst [.int x]) := by
        show some (D.lst (Pv.cutD ((x :: r).map D.int) none (some 1))) = _
        unfold Pv.cutD
        rw [HT.sIx_none, show HT.sIx ((x :: r).map D.int).length ((x :: r).map D.int).length (some 1) = min 1 ((x :: r).map D.int).length from HT.sIx_nat _ _ 1, show min 1 ((x :: r).map D.int).length = 1 by rw [List.length_map, List.length_cons]; omega]
        rfl
      simp [evS, ev, evG, evP, R.bind, opt, vget, c1, p1, truth, putO, isOwE, owD]
  obtain ⟨x, hc⟩ := hc
  obtain ⟨L, hL⟩ : ∃ L, L = Pv.cutD (ns.map D.int) (some 1) (some 63) := ⟨_, rfl⟩
  have hLi : ∀ d ∈ L, ∃ v : Int, d = .int v := fun d hd => by
    rw [hL] at hd
    obtain ⟨v, _, e⟩ := List.mem_map.mp (List.mem_of_mem_drop (List.mem_of_mem_take hd))
    exact ⟨v, e.symm⟩
  have hLn : L.length ≤ 63 := by
    rw [hL]
    unfold Pv.cutD
    rw [List.length_take, List.length_drop, List.length_map]
    omega
  obtain ⟨z', u3, u4, u5, hg⟩ := cell_go (Φ := Φ) (M := M) (S0 := .scr ns) (enumD 0 L) x .un .un .un (fun d hd => by
    obtain ⟨j, v, e, hj⟩ := enum_all L 0 hLi d hd
    exact ⟨j, v, e, by omega⟩) rfl rfl rfl
  refine ⟨z', ?_⟩
  have s2 : evI Φ (.enum (.c (.slice (.c (.var 0)) (.c (.var 1)) (.c (.con (.int 63)))))) [.sh (.scr ns), .sh (.int 1), .ow [.int x], .un, .un, .un] = .ok (enumD 0 L) [.sh (.scr ns), .sh (.int 1), .ow [.int x], .un, .un, .un] := by
    have c2 : pSlice (some 1) (some 63) (.scr ns) = some (.lst L) := by rw [hL]; rfl
    simp [evI, ev, evG, evP, R.bind, opt, vget, c2, isOw, items]
  have s3 : evS Φ M (.forS (.enum (.c (.slice (.c (.var 0)) (.c (.var 1)) (.c (.con (.int 63)))))) (.ts [3, 4]) bodyC) [.sh (.scr ns), .sh (.int 1), .ow [.int x], .un, .un, .un] = .ok .nx [.sh (.scr ns), .sh (.int 1), .ow [.int z'], u3, u4, u5] := by
    rw [go_for s2]
    exact hg
  show endOf false (evSs Φ M co_72 [.sh (.scr ns), .sh (.int 1), .un, .un, .un, .un]) = _
  unfold co_72
  rw [go_nx hc, go_nx s3]
  rfl
end Lw
namespace Lw
open PySem PySem.Spec PyProof.Rows L2 Pv
/-! ## The law -/
abbrev Ph (n : Nat) : Orc := callN T 4000 n
theorem take71 (n : Nat) : TakeOk (Ph (n + 1)) := by
  intro a b c m G hc hm hm2
  obtain ⟨r, a', c', h, h1, h2, h3, h4, h5⟩ := take_ok (Φ := Ph n) (M := 4000) G.a0 G.b0 G.b1 G.c0 hc hm hm2
  exact ⟨r, a', c', h, h1, h2, ⟨h3, G.b0, G.b1, by have := G.c0; omega⟩, h5⟩
theorem pick73 (n : Nat) {l : List D} {m a b c : Int} (G : Good a b c) (hc : c < 2 ^ 59) (hl : l.length < 100000) (hm : 0 ≤ m) (hm2 : m < 100000) :
    ∃ (found : List D) (a' c' : Int), Ph (n + 2) 73 (some [.int a, .int b, .int c]) [.lst l, .int m] = .ok (.lst found) (some [.int a', .int b, .int c']) ∧ (∀ d ∈ found, d ∈ l) ∧ Good a' b c' ∧ c' ≤ c + m :=
  pick_ok (Φ := Ph (n + 1)) (M := 4000) (take71 n) G hc hl hm hm2
theorem cells72 (n : Nat) {ns : List Int} (hn : ns.length ≤ 63) : ∃ x : Int, Ph (n + 1) 72 none [.scr ns, .int 1] = .ok (.lst [.int x]) none := cells_ok (Φ := Ph n) (M := 4000) hn
theorem box70 (n : Nat) (x : Int) : ∃ a b : Int, Ph (n + 1) 70 none [.lst [.int x], .int 0] = .ok (.lst [.int a, .int b, .int 0]) none ∧ Good a b 0 := box_ok (Φ := Ph n) (M := 4000) x
def eBase : Sl := List.replicate 17 .un
theorem start_ok (n : Nat) {ns : List Int} (hn : ns.length ≤ 63) : ∃ a b : Int, evS (Ph (n + 1)) 4000 (nthS co_76 0) (eBase.set 0 (.sh (.scr ns))) = .ok .nx (stt (.sh (.scr ns)) (.ow [.int a, .int b, .int 0]) eBase) ∧ Good a b 0 := by
  obtain ⟨x, hx⟩ := cells72 n hn
  obtain ⟨a, b, hb, G⟩ := box70 n x
  refine ⟨a, b, ?_, G⟩
  have c1 : ev (Ph (n + 1)) (.call true 72 (.cons (.c (.var 0)) (.cons (.c (.con (.int 1))) .nil))) (eBase.set 0 (.sh (.scr ns))) = .ok (.lst [.int x]) (eBase.set 0 (.sh (.scr ns))) := by
    show frOf true (eBase.set 0 (.sh (.scr ns))) [.inl (.scr ns), .inl (.int 1)] (Ph (n + 1) 72 none [.scr ns, .int 1]) = _
    rw [hx]
    rfl
  have c2 : ev (Ph (n + 1)) (.call true 70 (.cons (.c (.call true 72 (.cons (.c (.var 0)) (.cons (.c (.con (.int 1))) .nil)))) (.cons (.c (.con (.int 0))) .nil))) (eBase.set 0 (.sh (.scr ns))) = .ok (.lst [.int a, .int b, .int 0]) (eBase.set 0 (.sh (.scr ns))) := by
    have c3 : evAs (Ph (n + 1)) (.cons (.c (.call true 72 (.cons (.c (.var 0)) (.cons (.c (.con (.int 1))) .nil)))) (.cons (.c (.con (.int 0))) .nil)) (eBase.set 0 (.sh (.scr ns))) = .ok [.inl (.lst [.int x]), .inl (.int 0)] (eBase.set 0 (.sh (.scr ns))) := by
      rw [evAs, evG, c1]
      rfl
    rw [ev, c3]
    show frOf true (eBase.set 0 (.sh (.scr ns))) [.inl (.lst [.int x]), .inl (.int 0)] (Ph (n + 1) 70 none [.lst [.int x], .int 0]) = _
    rw [hb]
    rfl
  show evS (Ph (n + 1)) 4000 (.setOw 1 (.call true 70 (.cons (.c (.call true 72 (.cons (.c (.var 0)) (.cons (.c (.con (.int 1))) .nil)))) (.cons (.c (.con (.int 0))) .nil)))) _ = _
  rw [evS, c2]
  rfl
def F40 : Orc := Ph 40
def pA : Ss := takeS (dropS co_76 1) 5
def eA : Sl := stOf (evSs F40 4000 pA eBase)
def shL (e : Sl) (i : Nat) : Option (List D) := match e[i]? with
  | some (Ent.sh (D.lst l)) => some l
  | _ => none
theorem shL_ok {e : Sl} {i : Nat} {l : List D} (h : shL e i = some l) : e[i]? = some (Ent.sh (D.lst l)) := by
  unfold shL at h
  cases z : e[i]? with
  | none => rw [z] at h; cases h
  | some u =>
    rw [z] at h
    cases u with
    | sh d =>
      cases d with
      | lst l' => cases h; rfl
      | _ => cases h
    | _ => cases h
def rts : List D := (shL eA 5).getD []
def bd1 : Ss := forB (nthS co_76 6)
def bP : Ss := forB (nthS bd1 4)
def chkB (d : D) : Bool := match put eA (.ts [6, 7, 8]) d with
  | none => false
  | some e1 => match evSs F40 4000 (takeS bd1 4) e1 with
    | .ok .nx eC => (match shL eC 9 with
      | some goods => decide (goods.length < 100000) && (decide (1 < eC.length) && goods.all fun b => match put eC (.n 12) b with
        | some e2 => goes F40 4000 bP e2 eC
        | none => false)
      | none => false) && goes F40 4000 (dropS bd1 5) eC eA
    | _ => false
def pC : Ss := takeS (dropS co_76 7) 3
def eD : Sl := stOf (evSs F40 4000 pC eA)
def bd2 : Ss := forB (nthS co_76 10)
def chkC (d : D) : Bool := match put eD (.ts [6, 7, 8]) d with
  | none => false
  | some e1 => goes F40 4000 bd2 e1 eD
def chkAll : Bool := isNx (evSs F40 4000 pA eBase) && (isNx (evSs F40 4000 pC eA) && (rts.all chkB && (rts.all chkC && (decide (rts.length = 18) && (decide (1 < eD.length) && ((shL eA 5).isSome && (match shL eD 5 with
  | some l => deqL l rts
  | none => false)))))))
theorem chk_ok : chkAll = true := by decide +kernel
end Lw
namespace Lw
open PySem PySem.Spec PyProof.Rows L2 Pv
theorem goes_of {Φ : Orc} {N : Nat} {ss : Ss} {e e' : Sl} (h : goes Φ N ss e e' = true) : evSs Φ N ss e = .ok .nx e' := goes_ok h
theorem body_1 {d : D} {x : Ent} {a b c : Int} (h : chkB d = true) (G : Good a b c) (hc : c < 2 ^ 59) :
    ∃ (e1 : Sl) (a' c' : Int), put (stt x (.ow [.int a, .int b, .int c]) eA) (.ts [6, 7, 8]) d = some e1 ∧ evSs F40 4000 bd1 e1 = .ok .nx (stt x (.ow [.int a', .int b, .int c']) eA) ∧ Good a' b c' ∧ c' ≤ c + 8 := by
  unfold chkB at h
  cases hp : put eA (.ts [6, 7, 8]) d with
  | none => rw [hp] at h; cases h
  | some e1 =>
    rw [hp] at h
    have h : (match evSs F40 4000 (takeS bd1 4) e1 with
      | .ok .nx eC => (match shL eC 9 with
        | some goods => decide (goods.length < 100000) && (decide (1 < eC.length) && goods.all fun b => match put eC (.n 12) b with
          | some e2 => goes F40 4000 bP e2 eC
          | none => false)
        | none => false) && goes F40 4000 (dropS bd1 5) eC eA
      | _ => false) = true := h
    cases hq : evSs F40 4000 (takeS bd1 4) e1 with
    | bad => rw [hq] at h; cases h
    | ex _ _ _ => rw [hq] at h; cases h
    | ok f eC =>
      rw [hq] at h
      cases f with
      | bk => cases h
      | ct => cases h
      | rt d => cases h
      | nx =>
        have h := and2 (show ((match shL eC 9 with
          | some goods => decide (goods.length < 100000) && (decide (1 < eC.length) && goods.all fun b => match put eC (.n 12) b with
            | some e2 => goes F40 4000 bP e2 eC
            | none => false)
          | none => false) && goes F40 4000 (dropS bd1 5) eC eA) = true from h)
        cases hg : shL eC 9 with
        | none => rw [hg] at h; cases h.1
        | some goods =>
          rw [hg] at h
          have h1 := and2 (show (decide (goods.length < 100000) && (decide (1 < eC.length) && goods.all fun b => match put eC (.n 12) b with
            | some e2 => goes F40 4000 bP e2 eC
            | none => false)) = true from h.1)
          have h2 := and2 h1.2
          have h9 := shL_ok hg
          obtain ⟨found, a', c', hpk, hf, G', hc'⟩ := pick73 38 (l := goods) (m := 8) G hc (of_decide_eq_true h1.1) (by decide) (by decide)
          refine ⟨stt x (.ow [.int a, .int b, .int c]) e1, a', c', stt_put (by decide) (by decide) hp, ?_, G', hc'⟩
          have s1 := stt_ss (x := x) (t := .ow [.int a, .int b, .int c]) (by decide +kernel) (by decide +kernel) hq
          have s2 : evS F40 4000 (nthS bd1 4) (stt x (.ow [.int a, .int b, .int c]) eC) = .ok .nx (stt x (.ow [.int a', .int b, .int c']) eC) := by
            have e4 : nthS bd1 4 = .forS (.c (.c (.callT true 73 1 (.cons (.b 9) (.cons (.c (.con (.int 8))) .nil))))) (.n 12) bP := rfl
            rw [e4]
            have as1 : evAs F40 (.cons (.b 9) (.cons (.c (.con (.int 8))) .nil)) eC = .ok [.inr 9, .inl (.int 8)] eC := by
              rw [evAs, evG, h9]
              rfl
            refine for_pick (ds := [.lst goods, .int 8]) (of_decide_eq_true h2.1) (by decide) (by decide) (by decide) (by decide) (by decide +kernel) (by decide +kernel) as1 ?_ ?_ hpk fun b hb => ?_
            · rw [vgets, vget, h9]
              rfl
            · rw [List.any_cons, isOw, h9]
              rfl
            · have hb2 := List.all_eq_true.mp h2.2 b (hf b hb)
              cases hpt : put eC (.n 12) b with
              | none => rw [hpt] at hb2; cases hb2
              | some e2 =>
                rw [hpt] at hb2
                exact ⟨e2, rfl, goes_of hb2⟩
          have s3 := stt_ss (x := x) (t := .ow [.int a', .int b, .int c']) (by decide +kernel) (by decide +kernel) (goes_of h.2)
          rw [split_nx 4 s1, show dropS bd1 4 = .cons (nthS bd1 4) (dropS bd1 5) from rfl, cons_nx s2, s3]
theorem loop_1 {x : Ent} : ∀ {L : List D} {a b c : Int}, (∀ d ∈ L, chkB d = true) → Good a b c → c + 8 * L.length < 2 ^ 59 →
    ∃ a' c' : Int, forGo (fun d e => put e (.ts [6, 7, 8]) d) (evSs F40 4000 bd1) L (stt x (.ow [.int a, .int b, .int c]) eA) = .ok .nx (stt x (.ow [.int a', .int b, .int c']) eA) ∧ Good a' b c' ∧ c' ≤ c + 8 * L.length
  | [], a, b, c, _, G, _ => ⟨a, c, rfl, G, by simp⟩
  | d :: L, a, b, c, h, G, hc => by
    rw [List.length_cons] at hc
    obtain ⟨e1, a1, c1, h1, h2, G1, hc1⟩ := body_1 (x := x) (h d List.mem_cons_self) G (by omega)
    obtain ⟨a2, c2, h3, G2, hc2⟩ := loop_1 (x := x) (L := L) (fun d hd => h d (List.mem_cons_of_mem _ hd)) G1 (by omega)
    refine ⟨a2, c2, ?_, G2, by rw [List.length_cons]; omega⟩
    show (opt (put _ (.ts [6, 7, 8]) d) _).bind _ = _
    rw [h1]
    show (evSs F40 4000 bd1 e1).bind _ = _
    rw [h2]
    exact h3
theorem law_ok {ns : List Int} (hn : ns.length ≤ 63) : Ph 41 76 none [.scr ns] = .ok (.bl true) none := by
  have k1 := and2 chk_ok
  have k2 := and2 k1.2
  have k3 := and2 k2.2
  have k4 := and2 k3.2
  have k5 := and2 k4.2
  have k6 := and2 k5.2
  have k7 := and2 k6.2
  have hlen : rts.length = 18 := of_decide_eq_true k5.1
  have r5 : eA[5]? = some (Ent.sh (.lst rts)) := by
    refine shL_ok ?_
    cases z : shL eA 5 with
    | none => rw [z] at k7; cases k7.1
    | some l =>
      unfold rts
      rw [z]
      rfl
  have r6 : eD[5]? = some (Ent.sh (.lst rts)) := by
    refine shL_ok ?_
    have k8 := k7.2
    cases z : shL eD 5 with
    | none => rw [z] at k8; cases k8
    | some l =>
      rw [z] at k8
      rw [deqL_ok (show deqL l rts = true from k8)]
  obtain ⟨a, b, s0, G⟩ := start_ok 39 hn
  have s0 : evS F40 4000 (nthS co_76 0) (eBase.set 0 (.sh (.scr ns))) = .ok .nx (stt (.sh (.scr ns)) (.ow [.int a, .int b, .int 0]) eBase) := s0
  have sA : evSs F40 4000 (takeS (dropS co_76 1) 5) (stt (.sh (.scr ns)) (.ow [.int a, .int b, .int 0]) eBase) = .ok .nx (stt (.sh (.scr ns)) (.ow [.int a, .int b, .int 0]) eA) := stt_ss (x := .sh (.scr ns)) (t := .ow [.int a, .int b, .int 0]) (ss := pA) (by decide +kernel) (by decide +kernel) (isNx_ok k1.1)
  obtain ⟨a1, c1, sB, G1, hc1⟩ := loop_1 (x := .sh (.scr ns)) (L := rts) (List.all_eq_true.mp k3.1) G (by rw [hlen]; decide)
  rw [hlen] at hc1
  have s6 : evS F40 4000 (nthS co_76 6) (stt (.sh (.scr ns)) (.ow [.int a, .int b, .int 0]) eA) = .ok .nx (stt (.sh (.scr ns)) (.ow [.int a1, .int b, .int c1]) eA) := by
    have e6 : nthS co_76 6 = .forS (.c (.c (.var 5))) (.ts [6, 7, 8]) bd1 := rfl
    rw [e6]
    have i6 : evI F40 (.c (.c (.var 5))) eA = .ok rts eA := by
      rw [evI, evG, ev, r5]
      rfl
    rw [for_it (stt_it (by decide) (by decide) i6)]
    exact sB
  have sC : evSs F40 4000 (takeS (dropS co_76 7) 3) (stt (.sh (.scr ns)) (.ow [.int a1, .int b, .int c1]) eA) = .ok .nx (stt (.sh (.scr ns)) (.ow [.int a1, .int b, .int c1]) eD) := stt_ss (x := .sh (.scr ns)) (t := .ow [.int a1, .int b, .int c1]) (ss := pC) (by decide +kernel) (by decide +kernel) (isNx_ok k2.1)
  obtain ⟨found, a2, c2, hpk, hf, G2, hc2⟩ := pick73 38 (l := rts) (m := 10) G1 (by omega) (by rw [hlen]; decide) (by decide) (by decide)
  have s10 : evS F40 4000 (nthS co_76 10) (stt (.sh (.scr ns)) (.ow [.int a1, .int b, .int c1]) eD) = .ok .nx (stt (.sh (.scr ns)) (.ow [.int a2, .int b, .int c2]) eD) := by
    have e10 : nthS co_76 10 = .forS (.c (.c (.callT true 73 1 (.cons (.c (.var 5)) (.cons (.c (.con (.int 10))) .nil))))) (.ts [6, 7, 8]) bd2 := rfl
    rw [e10]
    have as1 : evAs F40 (.cons (.c (.var 5)) (.cons (.c (.con (.int 10))) .nil)) eD = .ok [.inl (.lst rts), .inl (.int 10)] eD := by
      rw [evAs, evG, ev, r6]
      rfl
    refine for_pick (ds := [.lst rts, .int 10]) (of_decide_eq_true k6.1) (by decide) (by decide) (by decide) (by decide) (by decide +kernel) (by decide +kernel) as1 rfl rfl hpk fun d hd => ?_
    have hd2 := List.all_eq_true.mp k4.1 d (hf d hd)
    unfold chkC at hd2
    cases hpt : put eD (.ts [6, 7, 8]) d with
    | none => rw [hpt] at hd2; cases hd2
    | some e2 =>
      rw [hpt] at hd2
      exact ⟨e2, rfl, goes_of hd2⟩
  show endOf false (evSs F40 4000 co_76 (eBase.set 0 (.sh (.scr ns)))) = _
  have z0 : co_76 = .cons (nthS co_76 0) (dropS co_76 1) := rfl
  have z6 : dropS (dropS co_76 1) 5 = .cons (nthS co_76 6) (dropS co_76 7) := rfl
  have z10 : dropS (dropS co_76 7) 3 = .cons (nthS co_76 10) (dropS co_76 11) := rfl
  rw [z0, cons_nx s0, split_nx 5 sA, z6, cons_nx s6, split_nx 3 sC, z10, cons_nx s10]
  rfl
end Lw
namespace Lw
open PySem PySem.Spec PyProof.Rows L2 Pv
/-! ## What the top has written (printed by gen.py) -/
section
variable {P : Program} {w : World} {K : PySem.W.Frag} {mg : Str → Option Value} {base : Heap} {fas cas : List Addr}
theorem ok_0 {fd : FuncData} (G : Mg fas mg) (F : Fun K "is_number" "is_number" st_0 (fas.getD 0 0) fd) : DefOk T frT 4000 (gm K fas cas) P w mg base 0 ⟨false, 1, 1, co_0⟩ :=
  ⟨"is_number", st_0, fd, nm_0, ["thing"], F, sc_0, rfl, rfl, by decide, F.binds (ps := ["thing"]) fun _ _ _ _ _ _ us hl => match us, hl with | [_], _ => rfl, fun Φ n cdv A outer s H E hr hE => d_0 G hr hE⟩
theorem ok_1 {fd : FuncData} (G : Mg fas mg) (F : Fun K "is_within" "is_within" st_1 (fas.getD 1 0) fd) : DefOk T frT 4000 (gm K fas cas) P w mg base 1 ⟨false, 3, 3, co_1⟩ :=
  ⟨"is_within", st_1, fd, nm_1, ["thing", "least", "most"], F, sc_1, rfl, rfl, by decide, F.binds (ps := ["thing", "least", "most"]) fun _ _ _ _ _ _ us hl => match us, hl with | [_, _, _], _ => rfl, fun Φ n cdv A outer s H E hr hE => d_1 G hr hE⟩
theorem ok_2 {fd : FuncData} (G : Mg fas mg) (F : Fun K "is_long" "is_long" st_2 (fas.getD 2 0) fd) : DefOk T frT 4000 (gm K fas cas) P w mg base 2 ⟨false, 2, 2, co_2⟩ :=
  ⟨"is_long", st_2, fd, nm_2, ["thing", "length"], F, sc_2, rfl, rfl, by decide, F.binds (ps := ["thing", "length"]) fun _ _ _ _ _ _ us hl => match us, hl with | [_, _], _ => rfl, fun Φ n cdv A outer s H E hr hE => d_2 G hr hE⟩
theorem ok_3 {fd : FuncData} (G : Mg fas mg) (F : Fun K "are_within" "are_within" st_3 (fas.getD 3 0) fd) : DefOk T frT 4000 (gm K fas cas) P w mg base 3 ⟨false, 3, 4, co_3⟩ :=
  ⟨"are_within", st_3, fd, nm_3, ["thing", "least", "most"], F, sc_3, rfl, rfl, by decide, F.binds (ps := ["thing", "least", "most"]) fun _ _ _ _ _ _ us hl => match us, hl with | [_, _, _], _ => rfl, fun Φ n cdv A outer s H E hr hE => d_3 G hr hE⟩
theorem ok_4 {fd : FuncData} (G : Mg fas mg) (F : Fun K "tupled" "tupled" st_4 (fas.getD 4 0) fd) : DefOk T frT 4000 (gm K fas cas) P w mg base 4 ⟨false, 1, 2, co_4⟩ :=
  ⟨"tupled", st_4, fd, nm_4, ["value"], F, sc_4, rfl, rfl, by decide, F.binds (ps := ["value"]) fun _ _ _ _ _ _ us hl => match us, hl with | [_], _ => rfl, fun Φ n cdv A outer s H E hr hE => d_4 G hr hE⟩
theorem ok_5 {fd : FuncData} (G : Mg fas mg) (F : Fun K "sure_within" "sure_within" st_5 (fas.getD 5 0) fd) : DefOk T frT 4000 (gm K fas cas) P w mg base 5 ⟨false, 3, 3, co_5⟩ :=
  ⟨"sure_within", st_5, fd, nm_5, ["thing", "least", "most"], F, sc_5, rfl, rfl, by decide, F.binds (ps := ["thing", "least", "most"]) fun _ _ _ _ _ _ us hl => match us, hl with | [_, _, _], _ => rfl, fun Φ n cdv A outer s H E hr hE => d_5 G hr hE⟩
theorem ok_6 {fd : FuncData} (G : Mg fas mg) (F : Fun K "is_set_below" "is_set_below" st_6 (fas.getD 6 0) fd) : DefOk T frT 4000 (gm K fas cas) P w mg base 6 ⟨false, 2, 3, co_6⟩ :=
  ⟨"is_set_below", st_6, fd, nm_6, ["thing", "many"], F, sc_6, rfl, rfl, by decide, F.binds (ps := ["thing", "many"]) fun _ _ _ _ _ _ us hl => match us, hl with | [_, _], _ => rfl, fun Φ n cdv A outer s H E hr hE => d_6 G hr hE⟩
theorem ok_7 {fd : FuncData} (G : Mg fas mg) (F : Fun K "without" "without" st_7 (fas.getD 7 0) fd) : DefOk T frT 4000 (gm K fas cas) P w mg base 7 ⟨false, 2, 3, co_7⟩ :=
  ⟨"without", st_7, fd, nm_7, ["some", "other"], F, sc_7, rfl, rfl, by decide, F.binds (ps := ["some", "other"]) fun _ _ _ _ _ _ us hl => match us, hl with | [_, _], _ => rfl, fun Φ n cdv A outer s H E hr hE => d_7 G hr hE⟩
theorem ok_8 {fd : FuncData} (G : Mg fas mg) (F : Fun K "sets_of_size" "sets_of_size" st_8 (fas.getD 8 0) fd) : DefOk T frT 4000 (gm K fas cas) P w mg base 8 ⟨false, 2, 6, co_8⟩ :=
  ⟨"sets_of_size", st_8, fd, nm_8, ["some", "size"], F, sc_8, rfl, rfl, by decide, F.binds (ps := ["some", "size"]) fun _ _ _ _ _ _ us hl => match us, hl with | [_, _], _ => rfl, fun Φ n cdv A outer s H E hr hE => d_8 G hr hE⟩
theorem ok_9 {fd : FuncData} (G : Mg fas mg) (F : Fun K "all_sets" "all_sets" st_9 (fas.getD 9 0) fd) : DefOk T frT 4000 (gm K fas cas) P w mg base 9 ⟨false, 1, 3, co_9⟩ :=
  ⟨"all_sets", st_9, fd, nm_9, ["some"], F, sc_9, rfl, rfl, by decide, F.binds (ps := ["some"]) fun _ _ _ _ _ _ us hl => match us, hl with | [_], _ => rfl, fun Φ n cdv A outer s H E hr hE => d_9 G hr hE⟩
theorem ok_10 {fd : FuncData} (G : Mg fas mg) (F : Fun K "is_pair_in" "is_pair_in" st_10 (fas.getD 10 0) fd) : DefOk T frT 4000 (gm K fas cas) P w mg base 10 ⟨false, 2, 2, co_10⟩ :=
  ⟨"is_pair_in", st_10, fd, nm_10, ["thing", "many"], F, sc_10, rfl, rfl, by decide, F.binds (ps := ["thing", "many"]) fun _ _ _ _ _ _ us hl => match us, hl with | [_, _], _ => rfl, fun Φ n cdv A outer s H E hr hE => d_10 G hr hE⟩
theorem ok_11 {fd : FuncData} (G : Mg fas mg) (F : Fun K "is_web_in" "is_web_in" st_11 (fas.getD 11 0) fd) : DefOk T frT 4000 (gm K fas cas) P w mg base 11 ⟨false, 1, 3, co_11⟩ :=
  ⟨"is_web_in", st_11, fd, nm_11, ["thing"], F, sc_11, rfl, rfl, by decide, F.binds (ps := ["thing"]) fun _ _ _ _ _ _ us hl => match us, hl with | [_], _ => rfl, fun Φ n cdv A outer s H E hr hE => d_11 G hr hE⟩
theorem ok_12 {fd : FuncData} (G : Mg fas mg) (F : Fun K "sure_web" "sure_web" st_12 (fas.getD 12 0) fd) : DefOk T frT 4000 (gm K fas cas) P w mg base 12 ⟨false, 1, 2, co_12⟩ :=
  ⟨"sure_web", st_12, fd, nm_12, ["value"], F, sc_12, rfl, rfl, by decide, F.binds (ps := ["value"]) fun _ _ _ _ _ _ us hl => match us, hl with | [_], _ => rfl, fun Φ n cdv A outer s H E hr hE => d_12 G hr hE⟩
theorem ok_13 {fd : FuncData} (G : Mg fas mg) (F : Fun K "tied_in" "tied_in" st_13 (fas.getD 13 0) fd) : DefOk T frT 4000 (gm K fas cas) P w mg base 13 ⟨false, 3, 3, co_13⟩ :=
  ⟨"tied_in", st_13, fd, nm_13, ["web", "one", "other"], F, sc_13, rfl, rfl, by decide, F.binds (ps := ["web", "one", "other"]) fun _ _ _ _ _ _ us hl => match us, hl with | [_, _, _], _ => rfl, fun Φ n cdv A outer s H E hr hE => d_13 G hr hE⟩
theorem ok_14 {fd : FuncData} (G : Mg fas mg) (F : Fun K "many_at" "many_at" st_14 (fas.getD 14 0) fd) : DefOk T frT 4000 (gm K fas cas) P w mg base 14 ⟨false, 2, 3, co_14⟩ :=
  ⟨"many_at", st_14, fd, nm_14, ["web", "place"], F, sc_14, rfl, rfl, by decide, F.binds (ps := ["web", "place"]) fun _ _ _ _ _ _ us hl => match us, hl with | [_, _], _ => rfl, fun Φ n cdv A outer s H E hr hE => d_14 G hr hE⟩
theorem ok_15 {fd : FuncData} (G : Mg fas mg) (F : Fun K "within_in" "within_in" st_15 (fas.getD 15 0) fd) : DefOk T frT 4000 (gm K fas cas) P w mg base 15 ⟨false, 3, 4, co_15⟩ :=
  ⟨"within_in", st_15, fd, nm_15, ["web", "place", "some"], F, sc_15, rfl, rfl, by decide, F.binds (ps := ["web", "place", "some"]) fun _ _ _ _ _ _ us hl => match us, hl with | [_, _, _], _ => rfl, fun Φ n cdv A outer s H E hr hE => d_15 G hr hE⟩
theorem ok_16 {fd : FuncData} (G : Mg fas mg) (F : Fun K "are_lots_in" "are_lots_in" st_16 (fas.getD 16 0) fd) : DefOk T frT 4000 (gm K fas cas) P w mg base 16 ⟨false, 3, 3, co_16⟩ :=
  ⟨"are_lots_in", st_16, fd, nm_16, ["web", "many", "thing"], F, sc_16, rfl, rfl, by decide, F.binds (ps := ["web", "many", "thing"]) fun _ _ _ _ _ _ us hl => match us, hl with | [_, _, _], _ => rfl, fun Φ n cdv A outer s H E hr hE => d_16 G hr hE⟩
theorem ok_17 {fd : FuncData} (G : Mg fas mg) (F : Fun K "sure_lots" "sure_lots" st_17 (fas.getD 17 0) fd) : DefOk T frT 4000 (gm K fas cas) P w mg base 17 ⟨false, 3, 4, co_17⟩ :=
  ⟨"sure_lots", st_17, fd, nm_17, ["web", "many", "value"], F, sc_17, rfl, rfl, by decide, F.binds (ps := ["web", "many", "value"]) fun _ _ _ _ _ _ us hl => match us, hl with | [_, _, _], _ => rfl, fun Φ n cdv A outer s H E hr hE => d_17 G hr hE⟩
theorem ok_18 {fd : FuncData} (G : Mg fas mg) (F : Fun K "lot_of" "lot_of" st_18 (fas.getD 18 0) fd) : DefOk T frT 4000 (gm K fas cas) P w mg base 18 ⟨false, 2, 4, co_18⟩ :=
  ⟨"lot_of", st_18, fd, nm_18, ["lots", "number"], F, sc_18, rfl, rfl, by decide, F.binds (ps := ["lots", "number"]) fun _ _ _ _ _ _ us hl => match us, hl with | [_, _], _ => rfl, fun Φ n cdv A outer s H E hr hE => d_18 G hr hE⟩
theorem ok_19 {fd : FuncData} (G : Mg fas mg) (F : Fun K "own_in" "own_in" st_19 (fas.getD 19 0) fd) : DefOk T frT 4000 (gm K fas cas) P w mg base 19 ⟨false, 3, 3, co_19⟩ :=
  ⟨"own_in", st_19, fd, nm_19, ["web", "lots", "place"], F, sc_19, rfl, rfl, by decide, F.binds (ps := ["web", "lots", "place"]) fun _ _ _ _ _ _ us hl => match us, hl with | [_, _, _], _ => rfl, fun Φ n cdv A outer s H E hr hE => d_19 G hr hE⟩
theorem ok_20 {fd : FuncData} (G : Mg fas mg) (F : Fun K "inside_in" "inside_in" st_20 (fas.getD 20 0) fd) : DefOk T frT 4000 (gm K fas cas) P w mg base 20 ⟨false, 2, 3, co_20⟩ :=
  ⟨"inside_in", st_20, fd, nm_20, ["web", "lots"], F, sc_20, rfl, rfl, by decide, F.binds (ps := ["web", "lots"]) fun _ _ _ _ _ _ us hl => match us, hl with | [_, _], _ => rfl, fun Φ n cdv A outer s H E hr hE => d_20 G hr hE⟩
theorem ok_21 {fd : FuncData} (G : Mg fas mg) (F : Fun K "all_lots_in" "all_lots_in" st_21 (fas.getD 21 0) fd) : DefOk T frT 4000 (gm K fas cas) P w mg base 21 ⟨false, 2, 6, co_21⟩ :=
  ⟨"all_lots_in", st_21, fd, nm_21, ["web", "many"], F, sc_21, rfl, rfl, by decide, F.binds (ps := ["web", "many"]) fun _ _ _ _ _ _ us hl => match us, hl with | [_, _], _ => rfl, fun Φ n cdv A outer s H E hr hE => d_21 G hr hE⟩
theorem ok_22 {fd : FuncData} (G : Mg fas mg) (F : Fun K "is_web" "is_web" st_22 (fas.getD 22 0) fd) : DefOk T frT 4000 (gm K fas cas) P w mg base 22 ⟨false, 1, 1, co_22⟩ :=
  ⟨"is_web", st_22, fd, nm_22, ["thing"], F, sc_22, rfl, rfl, by decide, F.binds (ps := ["thing"]) fun _ _ _ _ _ _ us hl => match us, hl with | [_], _ => rfl, fun Φ n cdv A outer s H E hr hE => d_22 G hr hE⟩
theorem ok_23 {fd : FuncData} (G : Mg fas mg) (F : Fun K "are_lots" "are_lots" st_23 (fas.getD 23 0) fd) : DefOk T frT 4000 (gm K fas cas) P w mg base 23 ⟨false, 3, 4, co_23⟩ :=
  ⟨"are_lots", st_23, fd, nm_23, ["web", "many", "thing"], F, sc_23, rfl, rfl, by decide, F.binds (ps := ["web", "many", "thing"]) fun _ _ _ _ _ _ us hl => match us, hl with | [_, _, _], _ => rfl, fun Φ n cdv A outer s H E hr hE => d_23 G hr hE⟩
theorem ok_24 {fd : FuncData} (G : Mg fas mg) (F : Fun K "are_wishes_in" "are_wishes_in" st_24 (fas.getD 24 0) fd) : DefOk T frT 4000 (gm K fas cas) P w mg base 24 ⟨false, 2, 2, co_24⟩ :=
  ⟨"are_wishes_in", st_24, fd, nm_24, ["web", "thing"], F, sc_24, rfl, rfl, by decide, F.binds (ps := ["web", "thing"]) fun _ _ _ _ _ _ us hl => match us, hl with | [_, _], _ => rfl, fun Φ n cdv A outer s H E hr hE => d_24 G hr hE⟩
theorem ok_25 {fd : FuncData} (G : Mg fas mg) (F : Fun K "sure_wishes" "sure_wishes" st_25 (fas.getD 25 0) fd) : DefOk T frT 4000 (gm K fas cas) P w mg base 25 ⟨false, 2, 3, co_25⟩ :=
  ⟨"sure_wishes", st_25, fd, nm_25, ["web", "value"], F, sc_25, rfl, rfl, by decide, F.binds (ps := ["web", "value"]) fun _ _ _ _ _ _ us hl => match us, hl with | [_, _], _ => rfl, fun Φ n cdv A outer s H E hr hE => d_25 G hr hE⟩
theorem ok_26 {fd : FuncData} (G : Mg fas mg) (F : Fun K "rest_of" "rest_of" st_26 (fas.getD 26 0) fd) : DefOk T frT 4000 (gm K fas cas) P w mg base 26 ⟨false, 2, 2, co_26⟩ :=
  ⟨"rest_of", st_26, fd, nm_26, ["web", "some"], F, sc_26, rfl, rfl, by decide, F.binds (ps := ["web", "some"]) fun _ _ _ _ _ _ us hl => match us, hl with | [_, _], _ => rfl, fun Φ n cdv A outer s H E hr hE => d_26 G hr hE⟩
theorem ok_27 {fd : FuncData} (G : Mg fas mg) (F : Fun K "own_side" "own_side" st_27 (fas.getD 27 0) fd) : DefOk T frT 4000 (gm K fas cas) P w mg base 27 ⟨false, 3, 3, co_27⟩ :=
  ⟨"own_side", st_27, fd, nm_27, ["web", "some", "place"], F, sc_27, rfl, rfl, by decide, F.binds (ps := ["web", "some", "place"]) fun _ _ _ _ _ _ us hl => match us, hl with | [_, _, _], _ => rfl, fun Φ n cdv A outer s H E hr hE => d_27 G hr hE⟩
theorem ok_28 {fd : FuncData} (G : Mg fas mg) (F : Fun K "meets_in" "meets_in" st_28 (fas.getD 28 0) fd) : DefOk T frT 4000 (gm K fas cas) P w mg base 28 ⟨false, 3, 4, co_28⟩ :=
  ⟨"meets_in", st_28, fd, nm_28, ["web", "wishes", "some"], F, sc_28, rfl, rfl, by decide, F.binds (ps := ["web", "wishes", "some"]) fun _ _ _ _ _ _ us hl => match us, hl with | [_, _, _], _ => rfl, fun Φ n cdv A outer s H E hr hE => d_28 G hr hE⟩
theorem ok_29 {fd : FuncData} (G : Mg fas mg) (F : Fun K "rows_in" "rows_in" st_29 (fas.getD 29 0) fd) : DefOk T frT 4000 (gm K fas cas) P w mg base 29 ⟨false, 1, 5, co_29⟩ :=
  ⟨"rows_in", st_29, fd, nm_29, ["web"], F, sc_29, rfl, rfl, by decide, F.binds (ps := ["web"]) fun _ _ _ _ _ _ us hl => match us, hl with | [_], _ => rfl, fun Φ n cdv A outer s H E hr hE => d_29 G hr hE⟩
theorem ok_30 {fd : FuncData} (G : Mg fas mg) (F : Fun K "are_wishes" "are_wishes" st_30 (fas.getD 30 0) fd) : DefOk T frT 4000 (gm K fas cas) P w mg base 30 ⟨false, 2, 2, co_30⟩ :=
  ⟨"are_wishes", st_30, fd, nm_30, ["web", "thing"], F, sc_30, rfl, rfl, by decide, F.binds (ps := ["web", "thing"]) fun _ _ _ _ _ _ us hl => match us, hl with | [_, _], _ => rfl, fun Φ n cdv A outer s H E hr hE => d_30 G hr hE⟩
theorem ok_31 {fd : FuncData} (G : Mg fas mg) (F : Fun K "sides_met" "sides_met" st_31 (fas.getD 31 0) fd) : DefOk T frT 4000 (gm K fas cas) P w mg base 31 ⟨false, 3, 5, co_31⟩ :=
  ⟨"sides_met", st_31, fd, nm_31, ["web", "wishes", "thing"], F, sc_31, rfl, rfl, by decide, F.binds (ps := ["web", "wishes", "thing"]) fun _ _ _ _ _ _ us hl => match us, hl with | [_, _, _], _ => rfl, fun Φ n cdv A outer s H E hr hE => d_31 G hr hE⟩
theorem ok_32 {fd : FuncData} (G : Mg fas mg) (F : Fun K "is_even_odd_in" "is_even_odd_in" st_32 (fas.getD 32 0) fd) : DefOk T frT 4000 (gm K fas cas) P w mg base 32 ⟨false, 2, 3, co_32⟩ :=
  ⟨"is_even_odd_in", st_32, fd, nm_32, ["web", "some"], F, sc_32, rfl, rfl, by decide, F.binds (ps := ["web", "some"]) fun _ _ _ _ _ _ us hl => match us, hl with | [_, _], _ => rfl, fun Φ n cdv A outer s H E hr hE => d_32 G hr hE⟩
theorem ok_33 {fd : FuncData} (G : Mg fas mg) (F : Fun K "is_even_odd" "is_even_odd" st_33 (fas.getD 33 0) fd) : DefOk T frT 4000 (gm K fas cas) P w mg base 33 ⟨false, 2, 3, co_33⟩ :=
  ⟨"is_even_odd", st_33, fd, nm_33, ["web", "thing"], F, sc_33, rfl, rfl, by decide, F.binds (ps := ["web", "thing"]) fun _ _ _ _ _ _ us hl => match us, hl with | [_, _], _ => rfl, fun Φ n cdv A outer s H E hr hE => d_33 G hr hE⟩
theorem ok_34 {fd : FuncData} (G : Mg fas mg) (F : Fun K "is_paper_in" "is_paper_in" st_34 (fas.getD 34 0) fd) : DefOk T frT 4000 (gm K fas cas) P w mg base 34 ⟨false, 3, 5, co_34⟩ :=
  ⟨"is_paper_in", st_34, fd, nm_34, ["web", "wishes", "some"], F, sc_34, rfl, rfl, by decide, F.binds (ps := ["web", "wishes", "some"]) fun _ _ _ _ _ _ us hl => match us, hl with | [_, _, _], _ => rfl, fun Φ n cdv A outer s H E hr hE => d_34 G hr hE⟩
theorem ok_35 {fd : FuncData} (G : Mg fas mg) (F : Fun K "is_wish_paper" "is_wish_paper" st_35 (fas.getD 35 0) fd) : DefOk T frT 4000 (gm K fas cas) P w mg base 35 ⟨false, 3, 5, co_35⟩ :=
  ⟨"is_wish_paper", st_35, fd, nm_35, ["web", "wishes", "thing"], F, sc_35, rfl, rfl, by decide, F.binds (ps := ["web", "wishes", "thing"]) fun _ _ _ _ _ _ us hl => match us, hl with | [_, _, _], _ => rfl, fun Φ n cdv A outer s H E hr hE => d_35 G hr hE⟩
theorem ok_36 {fd : FuncData} (G : Mg fas mg) (F : Fun K "across_in" "across_in" st_36 (fas.getD 36 0) fd) : DefOk T frT 4000 (gm K fas cas) P w mg base 36 ⟨false, 2, 3, co_36⟩ :=
  ⟨"across_in", st_36, fd, nm_36, ["web", "some"], F, sc_36, rfl, rfl, by decide, F.binds (ps := ["web", "some"]) fun _ _ _ _ _ _ us hl => match us, hl with | [_, _], _ => rfl, fun Φ n cdv A outer s H E hr hE => d_36 G hr hE⟩
theorem ok_37 {fd : FuncData} (G : Mg fas mg) (F : Fun K "sets_without_first" "sets_without_first" st_37 (fas.getD 37 0) fd) : DefOk T frT 4000 (gm K fas cas) P w mg base 37 ⟨false, 1, 1, co_37⟩ :=
  ⟨"sets_without_first", st_37, fd, nm_37, ["web"], F, sc_37, rfl, rfl, by decide, F.binds (ps := ["web"]) fun _ _ _ _ _ _ us hl => match us, hl with | [_], _ => rfl, fun Φ n cdv A outer s H E hr hE => d_37 G hr hE⟩
theorem ok_38 {fd : FuncData} (G : Mg fas mg) (F : Fun K "most_across" "most_across" st_38 (fas.getD 38 0) fd) : DefOk T frT 4000 (gm K fas cas) P w mg base 38 ⟨false, 1, 3, co_38⟩ :=
  ⟨"most_across", st_38, fd, nm_38, ["web"], F, sc_38, rfl, rfl, by decide, F.binds (ps := ["web"]) fun _ _ _ _ _ _ us hl => match us, hl with | [_], _ => rfl, fun Φ n cdv A outer s H E hr hE => d_38 G hr hE⟩
theorem ok_39 {fd : FuncData} (G : Mg fas mg) (F : Fun K "is_best_across" "is_best_across" st_39 (fas.getD 39 0) fd) : DefOk T frT 4000 (gm K fas cas) P w mg base 39 ⟨false, 2, 3, co_39⟩ :=
  ⟨"is_best_across", st_39, fd, nm_39, ["web", "thing"], F, sc_39, rfl, rfl, by decide, F.binds (ps := ["web", "thing"]) fun _ _ _ _ _ _ us hl => match us, hl with | [_, _], _ => rfl, fun Φ n cdv A outer s H E hr hE => d_39 G hr hE⟩
theorem ok_40 {fd : FuncData} (G : Mg fas mg) (F : Fun K "is_odd_round" "is_odd_round" st_40 (fas.getD 40 0) fd) : DefOk T frT 4000 (gm K fas cas) P w mg base 40 ⟨false, 2, 5, co_40⟩ :=
  ⟨"is_odd_round", st_40, fd, nm_40, ["web", "thing"], F, sc_40, rfl, rfl, by decide, F.binds (ps := ["web", "thing"]) fun _ _ _ _ _ _ us hl => match us, hl with | [_, _], _ => rfl, fun Φ n cdv A outer s H E hr hE => d_40 G hr hE⟩
theorem ok_41 {fd : FuncData} (G : Mg fas mg) (F : Fun K "are_limits_in" "are_limits_in" st_41 (fas.getD 41 0) fd) : DefOk T frT 4000 (gm K fas cas) P w mg base 41 ⟨false, 1, 1, co_41⟩ :=
  ⟨"are_limits_in", st_41, fd, nm_41, ["thing"], F, sc_41, rfl, rfl, by decide, F.binds (ps := ["thing"]) fun _ _ _ _ _ _ us hl => match us, hl with | [_], _ => rfl, fun Φ n cdv A outer s H E hr hE => d_41 G hr hE⟩
theorem ok_42 {fd : FuncData} (G : Mg fas mg) (F : Fun K "sure_limits" "sure_limits" st_42 (fas.getD 42 0) fd) : DefOk T frT 4000 (gm K fas cas) P w mg base 42 ⟨false, 1, 2, co_42⟩ :=
  ⟨"sure_limits", st_42, fd, nm_42, ["value"], F, sc_42, rfl, rfl, by decide, F.binds (ps := ["value"]) fun _ _ _ _ _ _ us hl => match us, hl with | [_], _ => rfl, fun Φ n cdv A outer s H E hr hE => d_42 G hr hE⟩
theorem ok_43 {fd : FuncData} (G : Mg fas mg) (F : Fun K "keeps_in" "keeps_in" st_43 (fas.getD 43 0) fd) : DefOk T frT 4000 (gm K fas cas) P w mg base 43 ⟨false, 3, 4, co_43⟩ :=
  ⟨"keeps_in", st_43, fd, nm_43, ["web", "limits", "lots"], F, sc_43, rfl, rfl, by decide, F.binds (ps := ["web", "limits", "lots"]) fun _ _ _ _ _ _ us hl => match us, hl with | [_, _, _], _ => rfl, fun Φ n cdv A outer s H E hr hE => d_43 G hr hE⟩
theorem ok_44 {fd : FuncData} (G : Mg fas mg) (F : Fun K "measure_in" "measure_in" st_44 (fas.getD 44 0) fd) : DefOk T frT 4000 (gm K fas cas) P w mg base 44 ⟨false, 3, 4, co_44⟩ :=
  ⟨"measure_in", st_44, fd, nm_44, ["web", "limits", "lots"], F, sc_44, rfl, rfl, by decide, F.binds (ps := ["web", "limits", "lots"]) fun _ _ _ _ _ _ us hl => match us, hl with | [_, _, _], _ => rfl, fun Φ n cdv A outer s H E hr hE => d_44 G hr hE⟩
theorem ok_45 {fd : FuncData} (G : Mg fas mg) (F : Fun K "open_moves_in" "open_moves_in" st_45 (fas.getD 45 0) fd) : DefOk T frT 4000 (gm K fas cas) P w mg base 45 ⟨false, 3, 6, co_45⟩ :=
  ⟨"open_moves_in", st_45, fd, nm_45, ["web", "limits", "lots"], F, sc_45, rfl, rfl, by decide, F.binds (ps := ["web", "limits", "lots"]) fun _ _ _ _ _ _ us hl => match us, hl with | [_, _, _], _ => rfl, fun Φ n cdv A outer s H E hr hE => d_45 G hr hE⟩
theorem ok_46 {fd : FuncData} (G : Mg fas mg) (F : Fun K "moved_in" "moved_in" st_46 (fas.getD 46 0) fd) : DefOk T frT 4000 (gm K fas cas) P w mg base 46 ⟨false, 3, 3, co_46⟩ :=
  ⟨"moved_in", st_46, fd, nm_46, ["lots", "place", "lot"], F, sc_46, rfl, rfl, by decide, F.binds (ps := ["lots", "place", "lot"]) fun _ _ _ _ _ _ us hl => match us, hl with | [_, _, _], _ => rfl, fun Φ n cdv A outer s H E hr hE => d_46 G hr hE⟩
theorem ok_47 {fd : FuncData} (G : Mg fas mg) (F : Fun K "many_lots" "many_lots" st_47 (fas.getD 47 0) fd) : DefOk T frT 4000 (gm K fas cas) P w mg base 47 ⟨false, 2, 4, co_47⟩ :=
  ⟨"many_lots", st_47, fd, nm_47, ["web", "many"], F, sc_47, rfl, rfl, by decide, F.binds (ps := ["web", "many"]) fun _ _ _ _ _ _ us hl => match us, hl with | [_, _], _ => rfl, fun Φ n cdv A outer s H E hr hE => d_47 G hr hE⟩
theorem ok_48 {fd : FuncData} (G : Mg fas mg) (F : Fun K "are_limits" "are_limits" st_48 (fas.getD 48 0) fd) : DefOk T frT 4000 (gm K fas cas) P w mg base 48 ⟨false, 1, 1, co_48⟩ :=
  ⟨"are_limits", st_48, fd, nm_48, ["thing"], F, sc_48, rfl, rfl, by decide, F.binds (ps := ["thing"]) fun _ _ _ _ _ _ us hl => match us, hl with | [_], _ => rfl, fun Φ n cdv A outer s H E hr hE => d_48 G hr hE⟩
theorem ok_49 {fd : FuncData} (G : Mg fas mg) (F : Fun K "do_keep" "do_keep" st_49 (fas.getD 49 0) fd) : DefOk T frT 4000 (gm K fas cas) P w mg base 49 ⟨false, 3, 5, co_49⟩ :=
  ⟨"do_keep", st_49, fd, nm_49, ["web", "limits", "thing"], F, sc_49, rfl, rfl, by decide, F.binds (ps := ["web", "limits", "thing"]) fun _ _ _ _ _ _ us hl => match us, hl with | [_, _, _], _ => rfl, fun Φ n cdv A outer s H E hr hE => d_49 G hr hE⟩
theorem ok_50 {fd : FuncData} (G : Mg fas mg) (F : Fun K "is_move_row" "is_move_row" st_50 (fas.getD 50 0) fd) : DefOk T frT 4000 (gm K fas cas) P w mg base 50 ⟨false, 4, 8, co_50⟩ :=
  ⟨"is_move_row", st_50, fd, nm_50, ["web", "limits", "lots", "thing"], F, sc_50, rfl, rfl, by decide, F.binds (ps := ["web", "limits", "lots", "thing"]) fun _ _ _ _ _ _ us hl => match us, hl with | [_, _, _, _], _ => rfl, fun Φ n cdv A outer s H E hr hE => d_50 G hr hE⟩
theorem ok_51 {fd : FuncData} (G : Mg fas mg) (F : Fun K "is_least_measure" "is_least_measure" st_51 (fas.getD 51 0) fd) : DefOk T frT 4000 (gm K fas cas) P w mg base 51 ⟨false, 3, 6, co_51⟩ :=
  ⟨"is_least_measure", st_51, fd, nm_51, ["web", "limits", "thing"], F, sc_51, rfl, rfl, by decide, F.binds (ps := ["web", "limits", "thing"]) fun _ _ _ _ _ _ us hl => match us, hl with | [_, _, _], _ => rfl, fun Φ n cdv A outer s H E hr hE => d_51 G hr hE⟩
theorem ok_52 {fd : FuncData} (G : Mg fas mg) (F : Fun K "are_shares_in" "are_shares_in" st_52 (fas.getD 52 0) fd) : DefOk T frT 4000 (gm K fas cas) P w mg base 52 ⟨false, 1, 1, co_52⟩ :=
  ⟨"are_shares_in", st_52, fd, nm_52, ["thing"], F, sc_52, rfl, rfl, by decide, F.binds (ps := ["thing"]) fun _ _ _ _ _ _ us hl => match us, hl with | [_], _ => rfl, fun Φ n cdv A outer s H E hr hE => d_52 G hr hE⟩
theorem ok_53 {fd : FuncData} (G : Mg fas mg) (F : Fun K "sure_shares" "sure_shares" st_53 (fas.getD 53 0) fd) : DefOk T frT 4000 (gm K fas cas) P w mg base 53 ⟨false, 1, 2, co_53⟩ :=
  ⟨"sure_shares", st_53, fd, nm_53, ["value"], F, sc_53, rfl, rfl, by decide, F.binds (ps := ["value"]) fun _ _ _ _ _ _ us hl => match us, hl with | [_], _ => rfl, fun Φ n cdv A outer s H E hr hE => d_53 G hr hE⟩
theorem ok_54 {fd : FuncData} (G : Mg fas mg) (F : Fun K "is_fair_at" "is_fair_at" st_54 (fas.getD 54 0) fd) : DefOk T frT 4000 (gm K fas cas) P w mg base 54 ⟨false, 4, 4, co_54⟩ :=
  ⟨"is_fair_at", st_54, fd, nm_54, ["web", "shares", "lots", "place"], F, sc_54, rfl, rfl, by decide, F.binds (ps := ["web", "shares", "lots", "place"]) fun _ _ _ _ _ _ us hl => match us, hl with | [_, _, _, _], _ => rfl, fun Φ n cdv A outer s H E hr hE => d_54 G hr hE⟩
theorem ok_55 {fd : FuncData} (G : Mg fas mg) (F : Fun K "are_fair_in" "are_fair_in" st_55 (fas.getD 55 0) fd) : DefOk T frT 4000 (gm K fas cas) P w mg base 55 ⟨false, 3, 4, co_55⟩ :=
  ⟨"are_fair_in", st_55, fd, nm_55, ["web", "shares", "lots"], F, sc_55, rfl, rfl, by decide, F.binds (ps := ["web", "shares", "lots"]) fun _ _ _ _ _ _ us hl => match us, hl with | [_, _, _], _ => rfl, fun Φ n cdv A outer s H E hr hE => d_55 G hr hE⟩
theorem ok_56 {fd : FuncData} (G : Mg fas mg) (F : Fun K "fair_moves_in" "fair_moves_in" st_56 (fas.getD 56 0) fd) : DefOk T frT 4000 (gm K fas cas) P w mg base 56 ⟨false, 3, 7, co_56⟩ :=
  ⟨"fair_moves_in", st_56, fd, nm_56, ["web", "shares", "lots"], F, sc_56, rfl, rfl, by decide, F.binds (ps := ["web", "shares", "lots"]) fun _ _ _ _ _ _ us hl => match us, hl with | [_, _, _], _ => rfl, fun Φ n cdv A outer s H E hr hE => d_56 G hr hE⟩
theorem ok_57 {fd : FuncData} (G : Mg fas mg) (F : Fun K "put_in" "put_in" st_57 (fas.getD 57 0) fd) : DefOk T frT 4000 (gm K fas cas) P w mg base 57 ⟨false, 3, 3, co_57⟩ :=
  ⟨"put_in", st_57, fd, nm_57, ["lots", "place", "lot"], F, sc_57, rfl, rfl, by decide, F.binds (ps := ["lots", "place", "lot"]) fun _ _ _ _ _ _ us hl => match us, hl with | [_, _, _], _ => rfl, fun Φ n cdv A outer s H E hr hE => d_57 G hr hE⟩
theorem ok_58 {fd : FuncData} (G : Mg fas mg) (F : Fun K "are_shares" "are_shares" st_58 (fas.getD 58 0) fd) : DefOk T frT 4000 (gm K fas cas) P w mg base 58 ⟨false, 1, 1, co_58⟩ :=
  ⟨"are_shares", st_58, fd, nm_58, ["thing"], F, sc_58, rfl, rfl, by decide, F.binds (ps := ["thing"]) fun _ _ _ _ _ _ us hl => match us, hl with | [_], _ => rfl, fun Φ n cdv A outer s H E hr hE => d_58 G hr hE⟩
theorem ok_59 {fd : FuncData} (G : Mg fas mg) (F : Fun K "do_share" "do_share" st_59 (fas.getD 59 0) fd) : DefOk T frT 4000 (gm K fas cas) P w mg base 59 ⟨false, 3, 5, co_59⟩ :=
  ⟨"do_share", st_59, fd, nm_59, ["web", "shares", "thing"], F, sc_59, rfl, rfl, by decide, F.binds (ps := ["web", "shares", "thing"]) fun _ _ _ _ _ _ us hl => match us, hl with | [_, _, _], _ => rfl, fun Φ n cdv A outer s H E hr hE => d_59 G hr hE⟩
theorem ok_60 {fd : FuncData} (G : Mg fas mg) (F : Fun K "is_share_row" "is_share_row" st_60 (fas.getD 60 0) fd) : DefOk T frT 4000 (gm K fas cas) P w mg base 60 ⟨false, 4, 8, co_60⟩ :=
  ⟨"is_share_row", st_60, fd, nm_60, ["web", "shares", "lots", "thing"], F, sc_60, rfl, rfl, by decide, F.binds (ps := ["web", "shares", "lots", "thing"]) fun _ _ _ _ _ _ us hl => match us, hl with | [_, _, _, _], _ => rfl, fun Φ n cdv A outer s H E hr hE => d_60 G hr hE⟩
theorem ok_61 {fd : FuncData} (G : Mg fas mg) (F : Fun K "are_numbers_in" "are_numbers_in" st_61 (fas.getD 61 0) fd) : DefOk T frT 4000 (gm K fas cas) P w mg base 61 ⟨false, 2, 2, co_61⟩ :=
  ⟨"are_numbers_in", st_61, fd, nm_61, ["web", "thing"], F, sc_61, rfl, rfl, by decide, F.binds (ps := ["web", "thing"]) fun _ _ _ _ _ _ us hl => match us, hl with | [_, _], _ => rfl, fun Φ n cdv A outer s H E hr hE => d_61 G hr hE⟩
theorem ok_62 {fd : FuncData} (G : Mg fas mg) (F : Fun K "are_wants_in" "are_wants_in" st_62 (fas.getD 62 0) fd) : DefOk T frT 4000 (gm K fas cas) P w mg base 62 ⟨false, 2, 3, co_62⟩ :=
  ⟨"are_wants_in", st_62, fd, nm_62, ["web", "thing"], F, sc_62, rfl, rfl, by decide, F.binds (ps := ["web", "thing"]) fun _ _ _ _ _ _ us hl => match us, hl with | [_, _], _ => rfl, fun Φ n cdv A outer s H E hr hE => d_62 G hr hE⟩
theorem ok_63 {fd : FuncData} (G : Mg fas mg) (F : Fun K "sure_wants" "sure_wants" st_63 (fas.getD 63 0) fd) : DefOk T frT 4000 (gm K fas cas) P w mg base 63 ⟨false, 2, 3, co_63⟩ :=
  ⟨"sure_wants", st_63, fd, nm_63, ["web", "value"], F, sc_63, rfl, rfl, by decide, F.binds (ps := ["web", "value"]) fun _ _ _ _ _ _ us hl => match us, hl with | [_, _], _ => rfl, fun Φ n cdv A outer s H E hr hE => d_63 G hr hE⟩
theorem ok_64 {fd : FuncData} (G : Mg fas mg) (F : Fun K "sure_numbers" "sure_numbers" st_64 (fas.getD 64 0) fd) : DefOk T frT 4000 (gm K fas cas) P w mg base 64 ⟨false, 2, 3, co_64⟩ :=
  ⟨"sure_numbers", st_64, fd, nm_64, ["web", "value"], F, sc_64, rfl, rfl, by decide, F.binds (ps := ["web", "value"]) fun _ _ _ _ _ _ us hl => match us, hl with | [_, _], _ => rfl, fun Φ n cdv A outer s H E hr hE => d_64 G hr hE⟩
theorem ok_65 {fd : FuncData} (G : Mg fas mg) (F : Fun K "is_held_in" "is_held_in" st_65 (fas.getD 65 0) fd) : DefOk T frT 4000 (gm K fas cas) P w mg base 65 ⟨false, 3, 4, co_65⟩ :=
  ⟨"is_held_in", st_65, fd, nm_65, ["web", "numbers", "some"], F, sc_65, rfl, rfl, by decide, F.binds (ps := ["web", "numbers", "some"]) fun _ _ _ _ _ _ us hl => match us, hl with | [_, _, _], _ => rfl, fun Φ n cdv A outer s H E hr hE => d_65 G hr hE⟩
theorem ok_66 {fd : FuncData} (G : Mg fas mg) (F : Fun K "is_half_in" "is_half_in" st_66 (fas.getD 66 0) fd) : DefOk T frT 4000 (gm K fas cas) P w mg base 66 ⟨false, 3, 4, co_66⟩ :=
  ⟨"is_half_in", st_66, fd, nm_66, ["web", "wants", "some"], F, sc_66, rfl, rfl, by decide, F.binds (ps := ["web", "wants", "some"]) fun _ _ _ _ _ _ us hl => match us, hl with | [_, _, _], _ => rfl, fun Φ n cdv A outer s H E hr hE => d_66 G hr hE⟩
theorem ok_67 {fd : FuncData} (G : Mg fas mg) (F : Fun K "are_wants" "are_wants" st_67 (fas.getD 67 0) fd) : DefOk T frT 4000 (gm K fas cas) P w mg base 67 ⟨false, 2, 2, co_67⟩ :=
  ⟨"are_wants", st_67, fd, nm_67, ["web", "thing"], F, sc_67, rfl, rfl, by decide, F.binds (ps := ["web", "thing"]) fun _ _ _ _ _ _ us hl => match us, hl with | [_, _], _ => rfl, fun Φ n cdv A outer s H E hr hE => d_67 G hr hE⟩
theorem ok_68 {fd : FuncData} (G : Mg fas mg) (F : Fun K "is_held" "is_held" st_68 (fas.getD 68 0) fd) : DefOk T frT 4000 (gm K fas cas) P w mg base 68 ⟨false, 3, 5, co_68⟩ :=
  ⟨"is_held", st_68, fd, nm_68, ["web", "numbers", "thing"], F, sc_68, rfl, rfl, by decide, F.binds (ps := ["web", "numbers", "thing"]) fun _ _ _ _ _ _ us hl => match us, hl with | [_, _, _], _ => rfl, fun Φ n cdv A outer s H E hr hE => d_68 G hr hE⟩
theorem ok_69 {fd : FuncData} (G : Mg fas mg) (F : Fun K "is_half" "is_half" st_69 (fas.getD 69 0) fd) : DefOk T frT 4000 (gm K fas cas) P w mg base 69 ⟨false, 3, 5, co_69⟩ :=
  ⟨"is_half", st_69, fd, nm_69, ["web", "wants", "thing"], F, sc_69, rfl, rfl, by decide, F.binds (ps := ["web", "wants", "thing"]) fun _ _ _ _ _ _ us hl => match us, hl with | [_, _, _], _ => rfl, fun Φ n cdv A outer s H E hr hE => d_69 G hr hE⟩
theorem ok_70 {fd : FuncData} (G : Mg fas mg) (F : Fun K "_law_box" "_law_box" st_70 (fas.getD 70 0) fd) : DefOk T frT 4000 (gm K fas cas) P w mg base 70 ⟨false, 2, 3, co_70⟩ :=
  ⟨"_law_box", st_70, fd, nm_70, ["script", "k"], F, sc_70, rfl, rfl, by decide, F.binds (ps := ["script", "k"]) fun _ _ _ _ _ _ us hl => match us, hl with | [_, _], _ => rfl, fun Φ n cdv A outer s H E hr hE => d_70 G hr hE⟩
theorem ok_71 {fd : FuncData} (G : Mg fas mg) (F : Fun K "_law_take" "_law_take" st_71 (fas.getD 71 0) fd) : DefOk T frT 4000 (gm K fas cas) P w mg base 71 ⟨true, 1, 6, co_71⟩ :=
  ⟨"_law_take", st_71, fd, nm_71, ["tin", "below_so"], F, sc_71, rfl, rfl, by decide, F.binds (ps := ["tin", "below_so"]) fun _ _ _ _ _ _ us hl => match us, hl with | [_, _], _ => rfl, fun Φ n cdv A outer s H E hr hE => d_71 G hr hE⟩
theorem ok_72 {fd : FuncData} (G : Mg fas mg) (F : Fun K "_law_cells" "_law_cells" st_72 (fas.getD 72 0) fd) : DefOk T frT 4000 (gm K fas cas) P w mg base 72 ⟨false, 2, 6, co_72⟩ :=
  ⟨"_law_cells", st_72, fd, nm_72, ["script", "most_so"], F, sc_72, rfl, rfl, by decide, F.binds (ps := ["script", "most_so"]) fun _ _ _ _ _ _ us hl => match us, hl with | [_, _], _ => rfl, fun Φ n cdv A outer s H E hr hE => d_72 G hr hE⟩
theorem ok_73 {fd : FuncData} (G : Mg fas mg) (F : Fun K "_law_pick" "_law_pick" st_73 (fas.getD 73 0) fd) : DefOk T frT 4000 (gm K fas cas) P w mg base 73 ⟨true, 2, 6, co_73⟩ :=
  ⟨"_law_pick", st_73, fd, nm_73, ["tin", "goods_so", "count_so"], F, sc_73, rfl, rfl, by decide, F.binds (ps := ["tin", "goods_so", "count_so"]) fun _ _ _ _ _ _ us hl => match us, hl with | [_, _, _], _ => rfl, fun Φ n cdv A outer s H E hr hE => d_73 G hr hE⟩
theorem ok_74 {fd : FuncData} (G : Mg fas mg) (F : Fun K "_law_same" "_law_same" st_74 (fas.getD 74 0) fd) : DefOk T frT 4000 (gm K fas cas) P w mg base 74 ⟨false, 2, 4, co_74⟩ :=
  ⟨"_law_same", st_74, fd, nm_74, ["got", "due"], F, sc_74, rfl, rfl, by decide, F.binds (ps := ["got", "due"]) fun _ _ _ _ _ _ us hl => match us, hl with | [_, _], _ => rfl, fun Φ n cdv A outer s H E hr hE => d_74 G hr hE⟩
theorem ok_75 {fd : FuncData} (G : Mg fas mg) (F : Fun K "_law_call" "_law_call" st_75 (fas.getD 75 0) fd) : DefOk T frT 4000 (gm K fas cas) P w mg base 75 ⟨false, 2, 2, co_75⟩ :=
  ⟨"_law_call", st_75, fd, nm_75, ["door", "goods_so"], F, sc_75, rfl, rfl, by decide, F.binds (ps := ["door", "goods_so"]) fun _ _ _ _ _ _ us hl => match us, hl with | [_, _], _ => rfl, fun Φ n cdv A outer s H E hr hE => d_75 G hr hE⟩
theorem ok_76 {fd : FuncData} (G : Mg fas mg) (F : Fun K "law" "law" st_76 (fas.getD 76 0) fd) : DefOk T frT 4000 (gm K fas cas) P w mg base 76 ⟨false, 1, 17, co_76⟩ :=
  ⟨"law", st_76, fd, nm_76, ["script"], F, sc_76, rfl, rfl, by decide, F.binds (ps := ["script"]) fun _ _ _ _ _ _ us hl => match us, hl with | [_], _ => rfl, fun Φ n cdv A outer s H E hr hE => d_76 G hr hE⟩
end
theorem all_mk {P : Program} {w : World} {K : PySem.W.Frag} {h : Heap} {mg : Str → Option Value} {fa : Addr} (X : K.In h) (G : h.Ns mainGlobals mg) (hfa : mg "law" = some (.ref fa)) {f0 f1 f2 f3 f4 f5 f6 f7 f8 f9 f10 f11 f12 f13 f14 f15 f16 f17 f18 f19 f20 f21 f22 f23 f24 f25 f26 f27 f28 f29 f30 f31 f32 f33 f34 f35 f36 f37 f38 f39 f40 f41 f42 f43 f44 f45 f46 f47 f48 f49 f50 f51 f52 f53 f54 f55 f56 f57 f58 f59 f60 f61 f62 f63 f64 f65 f66 f67 f68 f69 f70 f71 f72 f73 f74 f75 f76 : Addr}
    {oc0 kV0 dc0 pm0 cd0 ct0 : Value} {od0 an0 : Option Addr} {sl0 : Array (Option Value)} (a0 : PySem.W.nsIn K mainGlobals "is_number" = some (some (.ref f0))) (l0 : K.lookup f0 = some ⟨oc0, od0, .func (PySem.W.fnOf "is_number" "is_number" (defArgs st_0) (defBody st_0) (defScope st_0) .none kV0 dc0 pm0 an0 cd0 ct0), sl0⟩) (c0 : PySem.W.codeIn K cd0 "is_number" = true) (k0 : PySem.W.keepIn K (.ref f0) = true)
    {oc1 kV1 dc1 pm1 cd1 ct1 : Value} {od1 an1 : Option Addr} {sl1 : Array (Option Value)} (a1 : PySem.W.nsIn K mainGlobals "is_within" = some (some (.ref f1))) (l1 : K.lookup f1 = some ⟨oc1, od1, .func (PySem.W.fnOf "is_within" "is_within" (defArgs st_1) (defBody st_1) (defScope st_1) .none kV1 dc1 pm1 an1 cd1 ct1), sl1⟩) (c1 : PySem.W.codeIn K cd1 "is_within" = true) (k1 : PySem.W.keepIn K (.ref f1) = true)
    {oc2 kV2 dc2 pm2 cd2 ct2 : Value} {od2 an2 : Option Addr} {sl2 : Array (Option Value)} (a2 : PySem.W.nsIn K mainGlobals "is_long" = some (some (.ref f2))) (l2 : K.lookup f2 = some ⟨oc2, od2, .func (PySem.W.fnOf "is_long" "is_long" (defArgs st_2) (defBody st_2) (defScope st_2) .none kV2 dc2 pm2 an2 cd2 ct2), sl2⟩) (c2 : PySem.W.codeIn K cd2 "is_long" = true) (k2 : PySem.W.keepIn K (.ref f2) = true)
    {oc3 kV3 dc3 pm3 cd3 ct3 : Value} {od3 an3 : Option Addr} {sl3 : Array (Option Value)} (a3 : PySem.W.nsIn K mainGlobals "are_within" = some (some (.ref f3))) (l3 : K.lookup f3 = some ⟨oc3, od3, .func (PySem.W.fnOf "are_within" "are_within" (defArgs st_3) (defBody st_3) (defScope st_3) .none kV3 dc3 pm3 an3 cd3 ct3), sl3⟩) (c3 : PySem.W.codeIn K cd3 "are_within" = true) (k3 : PySem.W.keepIn K (.ref f3) = true)
    {oc4 kV4 dc4 pm4 cd4 ct4 : Value} {od4 an4 : Option Addr} {sl4 : Array (Option Value)} (a4 : PySem.W.nsIn K mainGlobals "tupled" = some (some (.ref f4))) (l4 : K.lookup f4 = some ⟨oc4, od4, .func (PySem.W.fnOf "tupled" "tupled" (defArgs st_4) (defBody st_4) (defScope st_4) .none kV4 dc4 pm4 an4 cd4 ct4), sl4⟩) (c4 : PySem.W.codeIn K cd4 "tupled" = true) (k4 : PySem.W.keepIn K (.ref f4) = true)
    {oc5 kV5 dc5 pm5 cd5 ct5 : Value} {od5 an5 : Option Addr} {sl5 : Array (Option Value)} (a5 : PySem.W.nsIn K mainGlobals "sure_within" = some (some (.ref f5))) (l5 : K.lookup f5 = some ⟨oc5, od5, .func (PySem.W.fnOf "sure_within" "sure_within" (defArgs st_5) (defBody st_5) (defScope st_5) .none kV5 dc5 pm5 an5 cd5 ct5), sl5⟩) (c5 : PySem.W.codeIn K cd5 "sure_within" = true) (k5 : PySem.W.keepIn K (.ref f5) = true)
    {oc6 kV6 dc6 pm6 cd6 ct6 : Value} {od6 an6 : Option Addr} {sl6 : Array (Option Value)} (a6 : PySem.W.nsIn K mainGlobals "is_set_below" = some (some (.ref f6))) (l6 : K.lookup f6 = some ⟨oc6, od6, .func (PySem.W.fnOf "is_set_below" "is_set_below" (defArgs st_6) (defBody st_6) (defScope st_6) .none kV6 dc6 pm6 an6 cd6 ct6), sl6⟩) (c6 : PySem.W.codeIn K cd6 "is_set_below" = true) (k6 : PySem.W.keepIn K (.ref f6) = true)
    {oc7 kV7 dc7 pm7 cd7 ct7 : Value} {od7 an7 : Option Addr} {sl7 : Array (Option Value)} (a7 : PySem.W.nsIn K mainGlobals "without" = some (some (.ref f7))) (l7 : K.lookup f7 = some ⟨oc7, od7, .func (PySem.W.fnOf "without" "without" (defArgs st_7) (defBody st_7) (defScope st_7) .none kV7 dc7 pm7 an7 cd7 ct7), sl7⟩) (c7 : PySem.W.codeIn K cd7 "without" = true) (k7 : PySem.W.keepIn K (.ref f7) = true)
    {oc8 kV8 dc8 pm8 cd8 ct8 : Value} {od8 an8 : Option Addr} {sl8 : Array (Option Value)} (a8 : PySem.W.nsIn K mainGlobals "sets_of_size" = some (some (.ref f8))) (l8 : K.lookup f8 = some ⟨oc8, od8, .func (PySem.W.fnOf "sets_of_size" "sets_of_size" (defArgs st_8) (defBody st_8) (defScope st_8) .none kV8 dc8 pm8 an8 cd8 ct8), sl8⟩) (c8 : PySem.W.codeIn K cd8 "sets_of_size" = true) (k8 : PySem.W.keepIn K (.ref f8) = true)
    {oc9 kV9 dc9 pm9 cd9 ct9 : Value} {od9 an9 : Option Addr} {sl9 : Array (Option Value)} (a9 : PySem.W.nsIn K mainGlobals "all_sets" = some (some (.ref f9))) (l9 : K.lookup f9 = some ⟨oc9, od9, .func (PySem.W.fnOf "all_sets" "all_sets" (defArgs st_9) (defBody st_9) (defScope st_9) .none kV9 dc9 pm9 an9 cd9 ct9), sl9⟩) (c9 : PySem.W.codeIn K cd9 "all_sets" = true) (k9 : PySem.W.keepIn K (.ref f9) = true)
    {oc10 kV10 dc10 pm10 cd10 ct10 : Value} {od10 an10 : Option Addr} {sl10 : Array (Option Value)} (a10 : PySem.W.nsIn K mainGlobals "is_pair_in" = some (some (.ref f10))) (l10 : K.lookup f10 = some ⟨oc10, od10, .func (PySem.W.fnOf "is_pair_in" "is_pair_in" (defArgs st_10) (defBody st_10) (defScope st_10) .none kV10 dc10 pm10 an10 cd10 ct10), sl10⟩) (c10 : PySem.W.codeIn K cd10 "is_pair_in" = true) (k10 : PySem.W.keepIn K (.ref f10) = true)
    {oc11 kV11 dc11 pm11 cd11 ct11 : Value} {od11 an11 : Option Addr} {sl11 : Array (Option Value)} (a11 : PySem.W.nsIn K mainGlobals "is_web_in" = some (some (.ref f11))) (l11 : K.lookup f11 = some ⟨oc11, od11, .func (PySem.W.fnOf "is_web_in" "is_web_in" (defArgs st_11) (defBody st_11) (defScope st_11) .none kV11 dc11 pm11 an11 cd11 ct11), sl11⟩) (c11 : PySem.W.codeIn K cd11 "is_web_in" = true) (k11 : PySem.W.keepIn K (.ref f11) = true)
    {oc12 kV12 dc12 pm12 cd12 ct12 : Value} {od12 an12 : Option Addr} {sl12 : Array (Option Value)} (a12 : PySem.W.nsIn K mainGlobals "sure_web" = some (some (.ref f12))) (l12 : K.lookup f12 = some ⟨oc12, od12, .func (PySem.W.fnOf "sure_web" "sure_web" (defArgs st_12) (defBody st_12) (defScope st_12) .none kV12 dc12 pm12 an12 cd12 ct12), sl12⟩) (c12 : PySem.W.codeIn K cd12 "sure_web" = true) (k12 : PySem.W.keepIn K (.ref f12) = true)
    {oc13 kV13 dc13 pm13 cd13 ct13 : Value} {od13 an13 : Option Addr} {sl13 : Array (Option Value)} (a13 : PySem.W.nsIn K mainGlobals "tied_in" = some (some (.ref f13))) (l13 : K.lookup f13 = some ⟨oc13, od13, .func (PySem.W.fnOf "tied_in" "tied_in" (defArgs st_13) (defBody st_13) (defScope st_13) .none kV13 dc13 pm13 an13 cd13 ct13), sl13⟩) (c13 : PySem.W.codeIn K cd13 "tied_in" = true) (k13 : PySem.W.keepIn K (.ref f13) = true)
    {oc14 kV14 dc14 pm14 cd14 ct14 : Value} {od14 an14 : Option Addr} {sl14 : Array (Option Value)} (a14 : PySem.W.nsIn K mainGlobals "many_at" = some (some (.ref f14))) (l14 : K.lookup f14 = some ⟨oc14, od14, .func (PySem.W.fnOf "many_at" "many_at" (defArgs st_14) (defBody st_14) (defScope st_14) .none kV14 dc14 pm14 an14 cd14 ct14), sl14⟩) (c14 : PySem.W.codeIn K cd14 "many_at" = true) (k14 : PySem.W.keepIn K (.ref f14) = true)
    {oc15 kV15 dc15 pm15 cd15 ct15 : Value} {od15 an15 : Option Addr} {sl15 : Array (Option Value)} (a15 : PySem.W.nsIn K mainGlobals "within_in" = some (some (.ref f15))) (l15 : K.lookup f15 = some ⟨oc15, od15, .func (PySem.W.fnOf "within_in" "within_in" (defArgs st_15) (defBody st_15) (defScope st_15) .none kV15 dc15 pm15 an15 cd15 ct15), sl15⟩) (c15 : PySem.W.codeIn K cd15 "within_in" = true) (k15 : PySem.W.keepIn K (.ref f15) = true)
    {oc16 kV16 dc16 pm16 cd16 ct16 : Value} {od16 an16 : Option Addr} {sl16 : Array (Option Value)} (a16 : PySem.W.nsIn K mainGlobals "are_lots_in" = some (some (.ref f16))) (l16 : K.lookup f16 = some ⟨oc16, od16, .func (PySem.W.fnOf "are_lots_in" "are_lots_in" (defArgs st_16) (defBody st_16) (defScope st_16) .none kV16 dc16 pm16 an16 cd16 ct16), sl16⟩) (c16 : PySem.W.codeIn K cd16 "are_lots_in" = true) (k16 : PySem.W.keepIn K (.ref f16) = true)
    {oc17 kV17 dc17 pm17 cd17 ct17 : Value} {od17 an17 : Option Addr} {sl17 : Array (Option Value)} (a17 : PySem.W.nsIn K mainGlobals "sure_lots" = some (some (.ref f17))) (l17 : K.lookup f17 = some ⟨oc17, od17, .func (PySem.W.fnOf "sure_lots" "sure_lots" (defArgs st_17) (defBody st_17) (defScope st_17) .none kV17 dc17 pm17 an17 cd17 ct17), sl17⟩) (c17 : PySem.W.codeIn K cd17 "sure_lots" = true) (k17 : PySem.W.keepIn K (.ref f17) = true)
    {oc18 kV18 dc18 pm18 cd18 ct18 : Value} {od18 an18 : Option Addr} {sl18 : Array (Option Value)} (a18 : PySem.W.nsIn K mainGlobals "lot_of" = some (some (.ref f18))) (l18 : K.lookup f18 = some ⟨oc18, od18, .func (PySem.W.fnOf "lot_of" "lot_of" (defArgs st_18) (defBody st_18) (defScope st_18) .none kV18 dc18 pm18 an18 cd18 ct18), sl18⟩) (c18 : PySem.W.codeIn K cd18 "lot_of" = true) (k18 : PySem.W.keepIn K (.ref f18) = true)
    {oc19 kV19 dc19 pm19 cd19 ct19 : Value} {od19 an19 : Option Addr} {sl19 : Array (Option Value)} (a19 : PySem.W.nsIn K mainGlobals "own_in" = some (some (.ref f19))) (l19 : K.lookup f19 = some ⟨oc19, od19, .func (PySem.W.fnOf "own_in" "own_in" (defArgs st_19) (defBody st_19) (defScope st_19) .none kV19 dc19 pm19 an19 cd19 ct19), sl19⟩) (c19 : PySem.W.codeIn K cd19 "own_in" = true) (k19 : PySem.W.keepIn K (.ref f19) = true)
    {oc20 kV20 dc20 pm20 cd20 ct20 : Value} {od20 an20 : Option Addr} {sl20 : Array (Option Value)} (a20 : PySem.W.nsIn K mainGlobals "inside_in" = some (some (.ref f20))) (l20 : K.lookup f20 = some ⟨oc20, od20, .func (PySem.W.fnOf "inside_in" "inside_in" (defArgs st_20) (defBody st_20) (defScope st_20) .none kV20 dc20 pm20 an20 cd20 ct20), sl20⟩) (c20 : PySem.W.codeIn K cd20 "inside_in" = true) (k20 : PySem.W.keepIn K (.ref f20) = true)
    {oc21 kV21 dc21 pm21 cd21 ct21 : Value} {od21 an21 : Option Addr} {sl21 : Array (Option Value)} (a21 : PySem.W.nsIn K mainGlobals "all_lots_in" = some (some (.ref f21))) (l21 : K.lookup f21 = some ⟨oc21, od21, .func (PySem.W.fnOf "all_lots_in" "all_lots_in" (defArgs st_21) (defBody st_21) (defScope st_21) .none kV21 dc21 pm21 an21 cd21 ct21), sl21⟩) (c21 : PySem.W.codeIn K cd21 "all_lots_in" = true) (k21 : PySem.W.keepIn K (.ref f21) = true)
    {oc22 kV22 dc22 pm22 cd22 ct22 : Value} {od22 an22 : Option Addr} {sl22 : Array (Option Value)} (a22 : PySem.W.nsIn K mainGlobals "is_web" = some (some (.ref f22))) (l22 : K.lookup f22 = some ⟨oc22, od22, .func (PySem.W.fnOf "is_web" "is_web" (defArgs st_22) (defBody st_22) (defScope st_22) .none kV22 dc22 pm22 an22 cd22 ct22), sl22⟩) (c22 : PySem.W.codeIn K cd22 "is_web" = true) (k22 : PySem.W.keepIn K (.ref f22) = true)
    {oc23 kV23 dc23 pm23 cd23 ct23 : Value} {od23 an23 : Option Addr} {sl23 : Array (Option Value)} (a23 : PySem.W.nsIn K mainGlobals "are_lots" = some (some (.ref f23))) (l23 : K.lookup f23 = some ⟨oc23, od23, .func (PySem.W.fnOf "are_lots" "are_lots" (defArgs st_23) (defBody st_23) (defScope st_23) .none kV23 dc23 pm23 an23 cd23 ct23), sl23⟩) (c23 : PySem.W.codeIn K cd23 "are_lots" = true) (k23 : PySem.W.keepIn K (.ref f23) = true)
    {oc24 kV24 dc24 pm24 cd24 ct24 : Value} {od24 an24 : Option Addr} {sl24 : Array (Option Value)} (a24 : PySem.W.nsIn K mainGlobals "are_wishes_in" = some (some (.ref f24))) (l24 : K.lookup f24 = some ⟨oc24, od24, .func (PySem.W.fnOf "are_wishes_in" "are_wishes_in" (defArgs st_24) (defBody st_24) (defScope st_24) .none kV24 dc24 pm24 an24 cd24 ct24), sl24⟩) (c24 : PySem.W.codeIn K cd24 "are_wishes_in" = true) (k24 : PySem.W.keepIn K (.ref f24) = true)
    {oc25 kV25 dc25 pm25 cd25 ct25 : Value} {od25 an25 : Option Addr} {sl25 : Array (Option Value)} (a25 : PySem.W.nsIn K mainGlobals "sure_wishes" = some (some (.ref f25))) (l25 : K.lookup f25 = some ⟨oc25, od25, .func (PySem.W.fnOf "sure_wishes" "sure_wishes" (defArgs st_25) (defBody st_25) (defScope st_25) .none kV25 dc25 pm25 an25 cd25 ct25), sl25⟩) (c25 : PySem.W.codeIn K cd25 "sure_wishes" = true) (k25 : PySem.W.keepIn K (.ref f25) = true)
    {oc26 kV26 dc26 pm26 cd26 ct26 : Value} {od26 an26 : Option Addr} {sl26 : Array (Option Value)} (a26 : PySem.W.nsIn K mainGlobals "rest_of" = some (some (.ref f26))) (l26 : K.lookup f26 = some ⟨oc26, od26, .func (PySem.W.fnOf "rest_of" "rest_of" (defArgs st_26) (defBody st_26) (defScope st_26) .none kV26 dc26 pm26 an26 cd26 ct26), sl26⟩) (c26 : PySem.W.codeIn K cd26 "rest_of" = true) (k26 : PySem.W.keepIn K (.ref f26) = true)
    {oc27 kV27 dc27 pm27 cd27 ct27 : Value} {od27 an27 : Option Addr} {sl27 : Array (Option Value)} (a27 : PySem.W.nsIn K mainGlobals "own_side" = some (some (.ref f27))) (l27 : K.lookup f27 = some ⟨oc27, od27, .func (PySem.W.fnOf "own_side" "own_side" (defArgs st_27) (defBody st_27) (defScope st_27) .none kV27 dc27 pm27 an27 cd27 ct27), sl27⟩) (c27 : PySem.W.codeIn K cd27 "own_side" = true) (k27 : PySem.W.keepIn K (.ref f27) = true)
    {oc28 kV28 dc28 pm28 cd28 ct28 : Value} {od28 an28 : Option Addr} {sl28 : Array (Option Value)} (a28 : PySem.W.nsIn K mainGlobals "meets_in" = some (some (.ref f28))) (l28 : K.lookup f28 = some ⟨oc28, od28, .func (PySem.W.fnOf "meets_in" "meets_in" (defArgs st_28) (defBody st_28) (defScope st_28) .none kV28 dc28 pm28 an28 cd28 ct28), sl28⟩) (c28 : PySem.W.codeIn K cd28 "meets_in" = true) (k28 : PySem.W.keepIn K (.ref f28) = true)
    {oc29 kV29 dc29 pm29 cd29 ct29 : Value} {od29 an29 : Option Addr} {sl29 : Array (Option Value)} (a29 : PySem.W.nsIn K mainGlobals "rows_in" = some (some (.ref f29))) (l29 : K.lookup f29 = some ⟨oc29, od29, .func (PySem.W.fnOf "rows_in" "rows_in" (defArgs st_29) (defBody st_29) (defScope st_29) .none kV29 dc29 pm29 an29 cd29 ct29), sl29⟩) (c29 : PySem.W.codeIn K cd29 "rows_in" = true) (k29 : PySem.W.keepIn K (.ref f29) = true)
    {oc30 kV30 dc30 pm30 cd30 ct30 : Value} {od30 an30 : Option Addr} {sl30 : Array (Option Value)} (a30 : PySem.W.nsIn K mainGlobals "are_wishes" = some (some (.ref f30))) (l30 : K.lookup f30 = some ⟨oc30, od30, .func (PySem.W.fnOf "are_wishes" "are_wishes" (defArgs st_30) (defBody st_30) (defScope st_30) .none kV30 dc30 pm30 an30 cd30 ct30), sl30⟩) (c30 : PySem.W.codeIn K cd30 "are_wishes" = true) (k30 : PySem.W.keepIn K (.ref f30) = true)
    {oc31 kV31 dc31 pm31 cd31 ct31 : Value} {od31 an31 : Option Addr} {sl31 : Array (Option Value)} (a31 : PySem.W.nsIn K mainGlobals "sides_met" = some (some (.ref f31))) (l31 : K.lookup f31 = some ⟨oc31, od31, .func (PySem.W.fnOf "sides_met" "sides_met" (defArgs st_31) (defBody st_31) (defScope st_31) .none kV31 dc31 pm31 an31 cd31 ct31), sl31⟩) (c31 : PySem.W.codeIn K cd31 "sides_met" = true) (k31 : PySem.W.keepIn K (.ref f31) = true)
    {oc32 kV32 dc32 pm32 cd32 ct32 : Value} {od32 an32 : Option Addr} {sl32 : Array (Option Value)} (a32 : PySem.W.nsIn K mainGlobals "is_even_odd_in" = some (some (.ref f32))) (l32 : K.lookup f32 = some ⟨oc32, od32, .func (PySem.W.fnOf "is_even_odd_in" "is_even_odd_in" (defArgs st_32) (defBody st_32) (defScope st_32) .none kV32 dc32 pm32 an32 cd32 ct32), sl32⟩) (c32 : PySem.W.codeIn K cd32 "is_even_odd_in" = true) (k32 : PySem.W.keepIn K (.ref f32) = true)
    {oc33 kV33 dc33 pm33 cd33 ct33 : Value} {od33 an33 : Option Addr} {sl33 : Array (Option Value)} (a33 : PySem.W.nsIn K mainGlobals "is_even_odd" = some (some (.ref f33))) (l33 : K.lookup f33 = some ⟨oc33, od33, .func (PySem.W.fnOf "is_even_odd" "is_even_odd" (defArgs st_33) (defBody st_33) (defScope st_33) .none kV33 dc33 pm33 an33 cd33 ct33), sl33⟩) (c33 : PySem.W.codeIn K cd33 "is_even_odd" = true) (k33 : PySem.W.keepIn K (.ref f33) = true)
    {oc34 kV34 dc34 pm34 cd34 ct34 : Value} {od34 an34 : Option Addr} {sl34 : Array (Option Value)} (a34 : PySem.W.nsIn K mainGlobals "is_paper_in" = some (some (.ref f34))) (l34 : K.lookup f34 = some ⟨oc34, od34, .func (PySem.W.fnOf "is_paper_in" "is_paper_in" (defArgs st_34) (defBody st_34) (defScope st_34) .none kV34 dc34 pm34 an34 cd34 ct34), sl34⟩) (c34 : PySem.W.codeIn K cd34 "is_paper_in" = true) (k34 : PySem.W.keepIn K (.ref f34) = true)
    {oc35 kV35 dc35 pm35 cd35 ct35 : Value} {od35 an35 : Option Addr} {sl35 : Array (Option Value)} (a35 : PySem.W.nsIn K mainGlobals "is_wish_paper" = some (some (.ref f35))) (l35 : K.lookup f35 = some ⟨oc35, od35, .func (PySem.W.fnOf "is_wish_paper" "is_wish_paper" (defArgs st_35) (defBody st_35) (defScope st_35) .none kV35 dc35 pm35 an35 cd35 ct35), sl35⟩) (c35 : PySem.W.codeIn K cd35 "is_wish_paper" = true) (k35 : PySem.W.keepIn K (.ref f35) = true)
    {oc36 kV36 dc36 pm36 cd36 ct36 : Value} {od36 an36 : Option Addr} {sl36 : Array (Option Value)} (a36 : PySem.W.nsIn K mainGlobals "across_in" = some (some (.ref f36))) (l36 : K.lookup f36 = some ⟨oc36, od36, .func (PySem.W.fnOf "across_in" "across_in" (defArgs st_36) (defBody st_36) (defScope st_36) .none kV36 dc36 pm36 an36 cd36 ct36), sl36⟩) (c36 : PySem.W.codeIn K cd36 "across_in" = true) (k36 : PySem.W.keepIn K (.ref f36) = true)
    {oc37 kV37 dc37 pm37 cd37 ct37 : Value} {od37 an37 : Option Addr} {sl37 : Array (Option Value)} (a37 : PySem.W.nsIn K mainGlobals "sets_without_first" = some (some (.ref f37))) (l37 : K.lookup f37 = some ⟨oc37, od37, .func (PySem.W.fnOf "sets_without_first" "sets_without_first" (defArgs st_37) (defBody st_37) (defScope st_37) .none kV37 dc37 pm37 an37 cd37 ct37), sl37⟩) (c37 : PySem.W.codeIn K cd37 "sets_without_first" = true) (k37 : PySem.W.keepIn K (.ref f37) = true)
    {oc38 kV38 dc38 pm38 cd38 ct38 : Value} {od38 an38 : Option Addr} {sl38 : Array (Option Value)} (a38 : PySem.W.nsIn K mainGlobals "most_across" = some (some (.ref f38))) (l38 : K.lookup f38 = some ⟨oc38, od38, .func (PySem.W.fnOf "most_across" "most_across" (defArgs st_38) (defBody st_38) (defScope st_38) .none kV38 dc38 pm38 an38 cd38 ct38), sl38⟩) (c38 : PySem.W.codeIn K cd38 "most_across" = true) (k38 : PySem.W.keepIn K (.ref f38) = true)
    {oc39 kV39 dc39 pm39 cd39 ct39 : Value} {od39 an39 : Option Addr} {sl39 : Array (Option Value)} (a39 : PySem.W.nsIn K mainGlobals "is_best_across" = some (some (.ref f39))) (l39 : K.lookup f39 = some ⟨oc39, od39, .func (PySem.W.fnOf "is_best_across" "is_best_across" (defArgs st_39) (defBody st_39) (defScope st_39) .none kV39 dc39 pm39 an39 cd39 ct39), sl39⟩) (c39 : PySem.W.codeIn K cd39 "is_best_across" = true) (k39 : PySem.W.keepIn K (.ref f39) = true)
    {oc40 kV40 dc40 pm40 cd40 ct40 : Value} {od40 an40 : Option Addr} {sl40 : Array (Option Value)} (a40 : PySem.W.nsIn K mainGlobals "is_odd_round" = some (some (.ref f40))) (l40 : K.lookup f40 = some ⟨oc40, od40, .func (PySem.W.fnOf "is_odd_round" "is_odd_round" (defArgs st_40) (defBody st_40) (defScope st_40) .none kV40 dc40 pm40 an40 cd40 ct40), sl40⟩) (c40 : PySem.W.codeIn K cd40 "is_odd_round" = true) (k40 : PySem.W.keepIn K (.ref f40) = true)
    {oc41 kV41 dc41 pm41 cd41 ct41 : Value} {od41 an41 : Option Addr} {sl41 : Array (Option Value)} (a41 : PySem.W.nsIn K mainGlobals "are_limits_in" = some (some (.ref f41))) (l41 : K.lookup f41 = some ⟨oc41, od41, .func (PySem.W.fnOf "are_limits_in" "are_limits_in" (defArgs st_41) (defBody st_41) (defScope st_41) .none kV41 dc41 pm41 an41 cd41 ct41), sl41⟩) (c41 : PySem.W.codeIn K cd41 "are_limits_in" = true) (k41 : PySem.W.keepIn K (.ref f41) = true)
    {oc42 kV42 dc42 pm42 cd42 ct42 : Value} {od42 an42 : Option Addr} {sl42 : Array (Option Value)} (a42 : PySem.W.nsIn K mainGlobals "sure_limits" = some (some (.ref f42))) (l42 : K.lookup f42 = some ⟨oc42, od42, .func (PySem.W.fnOf "sure_limits" "sure_limits" (defArgs st_42) (defBody st_42) (defScope st_42) .none kV42 dc42 pm42 an42 cd42 ct42), sl42⟩) (c42 : PySem.W.codeIn K cd42 "sure_limits" = true) (k42 : PySem.W.keepIn K (.ref f42) = true)
    {oc43 kV43 dc43 pm43 cd43 ct43 : Value} {od43 an43 : Option Addr} {sl43 : Array (Option Value)} (a43 : PySem.W.nsIn K mainGlobals "keeps_in" = some (some (.ref f43))) (l43 : K.lookup f43 = some ⟨oc43, od43, .func (PySem.W.fnOf "keeps_in" "keeps_in" (defArgs st_43) (defBody st_43) (defScope st_43) .none kV43 dc43 pm43 an43 cd43 ct43), sl43⟩) (c43 : PySem.W.codeIn K cd43 "keeps_in" = true) (k43 : PySem.W.keepIn K (.ref f43) = true)
    {oc44 kV44 dc44 pm44 cd44 ct44 : Value} {od44 an44 : Option Addr} {sl44 : Array (Option Value)} (a44 : PySem.W.nsIn K mainGlobals "measure_in" = some (some (.ref f44))) (l44 : K.lookup f44 = some ⟨oc44, od44, .func (PySem.W.fnOf "measure_in" "measure_in" (defArgs st_44) (defBody st_44) (defScope st_44) .none kV44 dc44 pm44 an44 cd44 ct44), sl44⟩) (c44 : PySem.W.codeIn K cd44 "measure_in" = true) (k44 : PySem.W.keepIn K (.ref f44) = true)
    {oc45 kV45 dc45 pm45 cd45 ct45 : Value} {od45 an45 : Option Addr} {sl45 : Array (Option Value)} (a45 : PySem.W.nsIn K mainGlobals "open_moves_in" = some (some (.ref f45))) (l45 : K.lookup f45 = some ⟨oc45, od45, .func (PySem.W.fnOf "open_moves_in" "open_moves_in" (defArgs st_45) (defBody st_45) (defScope st_45) .none kV45 dc45 pm45 an45 cd45 ct45), sl45⟩) (c45 : PySem.W.codeIn K cd45 "open_moves_in" = true) (k45 : PySem.W.keepIn K (.ref f45) = true)
    {oc46 kV46 dc46 pm46 cd46 ct46 : Value} {od46 an46 : Option Addr} {sl46 : Array (Option Value)} (a46 : PySem.W.nsIn K mainGlobals "moved_in" = some (some (.ref f46))) (l46 : K.lookup f46 = some ⟨oc46, od46, .func (PySem.W.fnOf "moved_in" "moved_in" (defArgs st_46) (defBody st_46) (defScope st_46) .none kV46 dc46 pm46 an46 cd46 ct46), sl46⟩) (c46 : PySem.W.codeIn K cd46 "moved_in" = true) (k46 : PySem.W.keepIn K (.ref f46) = true)
    {oc47 kV47 dc47 pm47 cd47 ct47 : Value} {od47 an47 : Option Addr} {sl47 : Array (Option Value)} (a47 : PySem.W.nsIn K mainGlobals "many_lots" = some (some (.ref f47))) (l47 : K.lookup f47 = some ⟨oc47, od47, .func (PySem.W.fnOf "many_lots" "many_lots" (defArgs st_47) (defBody st_47) (defScope st_47) .none kV47 dc47 pm47 an47 cd47 ct47), sl47⟩) (c47 : PySem.W.codeIn K cd47 "many_lots" = true) (k47 : PySem.W.keepIn K (.ref f47) = true)
    {oc48 kV48 dc48 pm48 cd48 ct48 : Value} {od48 an48 : Option Addr} {sl48 : Array (Option Value)} (a48 : PySem.W.nsIn K mainGlobals "are_limits" = some (some (.ref f48))) (l48 : K.lookup f48 = some ⟨oc48, od48, .func (PySem.W.fnOf "are_limits" "are_limits" (defArgs st_48) (defBody st_48) (defScope st_48) .none kV48 dc48 pm48 an48 cd48 ct48), sl48⟩) (c48 : PySem.W.codeIn K cd48 "are_limits" = true) (k48 : PySem.W.keepIn K (.ref f48) = true)
    {oc49 kV49 dc49 pm49 cd49 ct49 : Value} {od49 an49 : Option Addr} {sl49 : Array (Option Value)} (a49 : PySem.W.nsIn K mainGlobals "do_keep" = some (some (.ref f49))) (l49 : K.lookup f49 = some ⟨oc49, od49, .func (PySem.W.fnOf "do_keep" "do_keep" (defArgs st_49) (defBody st_49) (defScope st_49) .none kV49 dc49 pm49 an49 cd49 ct49), sl49⟩) (c49 : PySem.W.codeIn K cd49 "do_keep" = true) (k49 : PySem.W.keepIn K (.ref f49) = true)
    {oc50 kV50 dc50 pm50 cd50 ct50 : Value} {od50 an50 : Option Addr} {sl50 : Array (Option Value)} (a50 : PySem.W.nsIn K mainGlobals "is_move_row" = some (some (.ref f50))) (l50 : K.lookup f50 = some ⟨oc50, od50, .func (PySem.W.fnOf "is_move_row" "is_move_row" (defArgs st_50) (defBody st_50) (defScope st_50) .none kV50 dc50 pm50 an50 cd50 ct50), sl50⟩) (c50 : PySem.W.codeIn K cd50 "is_move_row" = true) (k50 : PySem.W.keepIn K (.ref f50) = true)
    {oc51 kV51 dc51 pm51 cd51 ct51 : Value} {od51 an51 : Option Addr} {sl51 : Array (Option Value)} (a51 : PySem.W.nsIn K mainGlobals "is_least_measure" = some (some (.ref f51))) (l51 : K.lookup f51 = some ⟨oc51, od51, .func (PySem.W.fnOf "is_least_measure" "is_least_measure" (defArgs st_51) (defBody st_51) (defScope st_51) .none kV51 dc51 pm51 an51 cd51 ct51), sl51⟩) (c51 : PySem.W.codeIn K cd51 "is_least_measure" = true) (k51 : PySem.W.keepIn K (.ref f51) = true)
    {oc52 kV52 dc52 pm52 cd52 ct52 : Value} {od52 an52 : Option Addr} {sl52 : Array (Option Value)} (a52 : PySem.W.nsIn K mainGlobals "are_shares_in" = some (some (.ref f52))) (l52 : K.lookup f52 = some ⟨oc52, od52, .func (PySem.W.fnOf "are_shares_in" "are_shares_in" (defArgs st_52) (defBody st_52) (defScope st_52) .none kV52 dc52 pm52 an52 cd52 ct52), sl52⟩) (c52 : PySem.W.codeIn K cd52 "are_shares_in" = true) (k52 : PySem.W.keepIn K (.ref f52) = true)
    {oc53 kV53 dc53 pm53 cd53 ct53 : Value} {od53 an53 : Option Addr} {sl53 : Array (Option Value)} (a53 : PySem.W.nsIn K mainGlobals "sure_shares" = some (some (.ref f53))) (l53 : K.lookup f53 = some ⟨oc53, od53, .func (PySem.W.fnOf "sure_shares" "sure_shares" (defArgs st_53) (defBody st_53) (defScope st_53) .none kV53 dc53 pm53 an53 cd53 ct53), sl53⟩) (c53 : PySem.W.codeIn K cd53 "sure_shares" = true) (k53 : PySem.W.keepIn K (.ref f53) = true)
    {oc54 kV54 dc54 pm54 cd54 ct54 : Value} {od54 an54 : Option Addr} {sl54 : Array (Option Value)} (a54 : PySem.W.nsIn K mainGlobals "is_fair_at" = some (some (.ref f54))) (l54 : K.lookup f54 = some ⟨oc54, od54, .func (PySem.W.fnOf "is_fair_at" "is_fair_at" (defArgs st_54) (defBody st_54) (defScope st_54) .none kV54 dc54 pm54 an54 cd54 ct54), sl54⟩) (c54 : PySem.W.codeIn K cd54 "is_fair_at" = true) (k54 : PySem.W.keepIn K (.ref f54) = true)
    {oc55 kV55 dc55 pm55 cd55 ct55 : Value} {od55 an55 : Option Addr} {sl55 : Array (Option Value)} (a55 : PySem.W.nsIn K mainGlobals "are_fair_in" = some (some (.ref f55))) (l55 : K.lookup f55 = some ⟨oc55, od55, .func (PySem.W.fnOf "are_fair_in" "are_fair_in" (defArgs st_55) (defBody st_55) (defScope st_55) .none kV55 dc55 pm55 an55 cd55 ct55), sl55⟩) (c55 : PySem.W.codeIn K cd55 "are_fair_in" = true) (k55 : PySem.W.keepIn K (.ref f55) = true)
    {oc56 kV56 dc56 pm56 cd56 ct56 : Value} {od56 an56 : Option Addr} {sl56 : Array (Option Value)} (a56 : PySem.W.nsIn K mainGlobals "fair_moves_in" = some (some (.ref f56))) (l56 : K.lookup f56 = some ⟨oc56, od56, .func (PySem.W.fnOf "fair_moves_in" "fair_moves_in" (defArgs st_56) (defBody st_56) (defScope st_56) .none kV56 dc56 pm56 an56 cd56 ct56), sl56⟩) (c56 : PySem.W.codeIn K cd56 "fair_moves_in" = true) (k56 : PySem.W.keepIn K (.ref f56) = true)
    {oc57 kV57 dc57 pm57 cd57 ct57 : Value} {od57 an57 : Option Addr} {sl57 : Array (Option Value)} (a57 : PySem.W.nsIn K mainGlobals "put_in" = some (some (.ref f57))) (l57 : K.lookup f57 = some ⟨oc57, od57, .func (PySem.W.fnOf "put_in" "put_in" (defArgs st_57) (defBody st_57) (defScope st_57) .none kV57 dc57 pm57 an57 cd57 ct57), sl57⟩) (c57 : PySem.W.codeIn K cd57 "put_in" = true) (k57 : PySem.W.keepIn K (.ref f57) = true)
    {oc58 kV58 dc58 pm58 cd58 ct58 : Value} {od58 an58 : Option Addr} {sl58 : Array (Option Value)} (a58 : PySem.W.nsIn K mainGlobals "are_shares" = some (some (.ref f58))) (l58 : K.lookup f58 = some ⟨oc58, od58, .func (PySem.W.fnOf "are_shares" "are_shares" (defArgs st_58) (defBody st_58) (defScope st_58) .none kV58 dc58 pm58 an58 cd58 ct58), sl58⟩) (c58 : PySem.W.codeIn K cd58 "are_shares" = true) (k58 : PySem.W.keepIn K (.ref f58) = true)
    {oc59 kV59 dc59 pm59 cd59 ct59 : Value} {od59 an59 : Option Addr} {sl59 : Array (Option Value)} (a59 : PySem.W.nsIn K mainGlobals "do_share" = some (some (.ref f59))) (l59 : K.lookup f59 = some ⟨oc59, od59, .func (PySem.W.fnOf "do_share" "do_share" (defArgs st_59) (defBody st_59) (defScope st_59) .none kV59 dc59 pm59 an59 cd59 ct59), sl59⟩) (c59 : PySem.W.codeIn K cd59 "do_share" = true) (k59 : PySem.W.keepIn K (.ref f59) = true)
    {oc60 kV60 dc60 pm60 cd60 ct60 : Value} {od60 an60 : Option Addr} {sl60 : Array (Option Value)} (a60 : PySem.W.nsIn K mainGlobals "is_share_row" = some (some (.ref f60))) (l60 : K.lookup f60 = some ⟨oc60, od60, .func (PySem.W.fnOf "is_share_row" "is_share_row" (defArgs st_60) (defBody st_60) (defScope st_60) .none kV60 dc60 pm60 an60 cd60 ct60), sl60⟩) (c60 : PySem.W.codeIn K cd60 "is_share_row" = true) (k60 : PySem.W.keepIn K (.ref f60) = true)
    {oc61 kV61 dc61 pm61 cd61 ct61 : Value} {od61 an61 : Option Addr} {sl61 : Array (Option Value)} (a61 : PySem.W.nsIn K mainGlobals "are_numbers_in" = some (some (.ref f61))) (l61 : K.lookup f61 = some ⟨oc61, od61, .func (PySem.W.fnOf "are_numbers_in" "are_numbers_in" (defArgs st_61) (defBody st_61) (defScope st_61) .none kV61 dc61 pm61 an61 cd61 ct61), sl61⟩) (c61 : PySem.W.codeIn K cd61 "are_numbers_in" = true) (k61 : PySem.W.keepIn K (.ref f61) = true)
    {oc62 kV62 dc62 pm62 cd62 ct62 : Value} {od62 an62 : Option Addr} {sl62 : Array (Option Value)} (a62 : PySem.W.nsIn K mainGlobals "are_wants_in" = some (some (.ref f62))) (l62 : K.lookup f62 = some ⟨oc62, od62, .func (PySem.W.fnOf "are_wants_in" "are_wants_in" (defArgs st_62) (defBody st_62) (defScope st_62) .none kV62 dc62 pm62 an62 cd62 ct62), sl62⟩) (c62 : PySem.W.codeIn K cd62 "are_wants_in" = true) (k62 : PySem.W.keepIn K (.ref f62) = true)
    {oc63 kV63 dc63 pm63 cd63 ct63 : Value} {od63 an63 : Option Addr} {sl63 : Array (Option Value)} (a63 : PySem.W.nsIn K mainGlobals "sure_wants" = some (some (.ref f63))) (l63 : K.lookup f63 = some ⟨oc63, od63, .func (PySem.W.fnOf "sure_wants" "sure_wants" (defArgs st_63) (defBody st_63) (defScope st_63) .none kV63 dc63 pm63 an63 cd63 ct63), sl63⟩) (c63 : PySem.W.codeIn K cd63 "sure_wants" = true) (k63 : PySem.W.keepIn K (.ref f63) = true)
    {oc64 kV64 dc64 pm64 cd64 ct64 : Value} {od64 an64 : Option Addr} {sl64 : Array (Option Value)} (a64 : PySem.W.nsIn K mainGlobals "sure_numbers" = some (some (.ref f64))) (l64 : K.lookup f64 = some ⟨oc64, od64, .func (PySem.W.fnOf "sure_numbers" "sure_numbers" (defArgs st_64) (defBody st_64) (defScope st_64) .none kV64 dc64 pm64 an64 cd64 ct64), sl64⟩) (c64 : PySem.W.codeIn K cd64 "sure_numbers" = true) (k64 : PySem.W.keepIn K (.ref f64) = true)
    {oc65 kV65 dc65 pm65 cd65 ct65 : Value} {od65 an65 : Option Addr} {sl65 : Array (Option Value)} (a65 : PySem.W.nsIn K mainGlobals "is_held_in" = some (some (.ref f65))) (l65 : K.lookup f65 = some ⟨oc65, od65, .func (PySem.W.fnOf "is_held_in" "is_held_in" (defArgs st_65) (defBody st_65) (defScope st_65) .none kV65 dc65 pm65 an65 cd65 ct65), sl65⟩) (c65 : PySem.W.codeIn K cd65 "is_held_in" = true) (k65 : PySem.W.keepIn K (.ref f65) = true)
    {oc66 kV66 dc66 pm66 cd66 ct66 : Value} {od66 an66 : Option Addr} {sl66 : Array (Option Value)} (a66 : PySem.W.nsIn K mainGlobals "is_half_in" = some (some (.ref f66))) (l66 : K.lookup f66 = some ⟨oc66, od66, .func (PySem.W.fnOf "is_half_in" "is_half_in" (defArgs st_66) (defBody st_66) (defScope st_66) .none kV66 dc66 pm66 an66 cd66 ct66), sl66⟩) (c66 : PySem.W.codeIn K cd66 "is_half_in" = true) (k66 : PySem.W.keepIn K (.ref f66) = true)
    {oc67 kV67 dc67 pm67 cd67 ct67 : Value} {od67 an67 : Option Addr} {sl67 : Array (Option Value)} (a67 : PySem.W.nsIn K mainGlobals "are_wants" = some (some (.ref f67))) (l67 : K.lookup f67 = some ⟨oc67, od67, .func (PySem.W.fnOf "are_wants" "are_wants" (defArgs st_67) (defBody st_67) (defScope st_67) .none kV67 dc67 pm67 an67 cd67 ct67), sl67⟩) (c67 : PySem.W.codeIn K cd67 "are_wants" = true) (k67 : PySem.W.keepIn K (.ref f67) = true)
    {oc68 kV68 dc68 pm68 cd68 ct68 : Value} {od68 an68 : Option Addr} {sl68 : Array (Option Value)} (a68 : PySem.W.nsIn K mainGlobals "is_held" = some (some (.ref f68))) (l68 : K.lookup f68 = some ⟨oc68, od68, .func (PySem.W.fnOf "is_held" "is_held" (defArgs st_68) (defBody st_68) (defScope st_68) .none kV68 dc68 pm68 an68 cd68 ct68), sl68⟩) (c68 : PySem.W.codeIn K cd68 "is_held" = true) (k68 : PySem.W.keepIn K (.ref f68) = true)
    {oc69 kV69 dc69 pm69 cd69 ct69 : Value} {od69 an69 : Option Addr} {sl69 : Array (Option Value)} (a69 : PySem.W.nsIn K mainGlobals "is_half" = some (some (.ref f69))) (l69 : K.lookup f69 = some ⟨oc69, od69, .func (PySem.W.fnOf "is_half" "is_half" (defArgs st_69) (defBody st_69) (defScope st_69) .none kV69 dc69 pm69 an69 cd69 ct69), sl69⟩) (c69 : PySem.W.codeIn K cd69 "is_half" = true) (k69 : PySem.W.keepIn K (.ref f69) = true)
    {oc70 kV70 dc70 pm70 cd70 ct70 : Value} {od70 an70 : Option Addr} {sl70 : Array (Option Value)} (a70 : PySem.W.nsIn K mainGlobals "_law_box" = some (some (.ref f70))) (l70 : K.lookup f70 = some ⟨oc70, od70, .func (PySem.W.fnOf "_law_box" "_law_box" (defArgs st_70) (defBody st_70) (defScope st_70) .none kV70 dc70 pm70 an70 cd70 ct70), sl70⟩) (c70 : PySem.W.codeIn K cd70 "_law_box" = true) (k70 : PySem.W.keepIn K (.ref f70) = true)
    {oc71 kV71 dc71 pm71 cd71 ct71 : Value} {od71 an71 : Option Addr} {sl71 : Array (Option Value)} (a71 : PySem.W.nsIn K mainGlobals "_law_take" = some (some (.ref f71))) (l71 : K.lookup f71 = some ⟨oc71, od71, .func (PySem.W.fnOf "_law_take" "_law_take" (defArgs st_71) (defBody st_71) (defScope st_71) .none kV71 dc71 pm71 an71 cd71 ct71), sl71⟩) (c71 : PySem.W.codeIn K cd71 "_law_take" = true) (k71 : PySem.W.keepIn K (.ref f71) = true)
    {oc72 kV72 dc72 pm72 cd72 ct72 : Value} {od72 an72 : Option Addr} {sl72 : Array (Option Value)} (a72 : PySem.W.nsIn K mainGlobals "_law_cells" = some (some (.ref f72))) (l72 : K.lookup f72 = some ⟨oc72, od72, .func (PySem.W.fnOf "_law_cells" "_law_cells" (defArgs st_72) (defBody st_72) (defScope st_72) .none kV72 dc72 pm72 an72 cd72 ct72), sl72⟩) (c72 : PySem.W.codeIn K cd72 "_law_cells" = true) (k72 : PySem.W.keepIn K (.ref f72) = true)
    {oc73 kV73 dc73 pm73 cd73 ct73 : Value} {od73 an73 : Option Addr} {sl73 : Array (Option Value)} (a73 : PySem.W.nsIn K mainGlobals "_law_pick" = some (some (.ref f73))) (l73 : K.lookup f73 = some ⟨oc73, od73, .func (PySem.W.fnOf "_law_pick" "_law_pick" (defArgs st_73) (defBody st_73) (defScope st_73) .none kV73 dc73 pm73 an73 cd73 ct73), sl73⟩) (c73 : PySem.W.codeIn K cd73 "_law_pick" = true) (k73 : PySem.W.keepIn K (.ref f73) = true)
    {oc74 kV74 dc74 pm74 cd74 ct74 : Value} {od74 an74 : Option Addr} {sl74 : Array (Option Value)} (a74 : PySem.W.nsIn K mainGlobals "_law_same" = some (some (.ref f74))) (l74 : K.lookup f74 = some ⟨oc74, od74, .func (PySem.W.fnOf "_law_same" "_law_same" (defArgs st_74) (defBody st_74) (defScope st_74) .none kV74 dc74 pm74 an74 cd74 ct74), sl74⟩) (c74 : PySem.W.codeIn K cd74 "_law_same" = true) (k74 : PySem.W.keepIn K (.ref f74) = true)
    {oc75 kV75 dc75 pm75 cd75 ct75 : Value} {od75 an75 : Option Addr} {sl75 : Array (Option Value)} (a75 : PySem.W.nsIn K mainGlobals "_law_call" = some (some (.ref f75))) (l75 : K.lookup f75 = some ⟨oc75, od75, .func (PySem.W.fnOf "_law_call" "_law_call" (defArgs st_75) (defBody st_75) (defScope st_75) .none kV75 dc75 pm75 an75 cd75 ct75), sl75⟩) (c75 : PySem.W.codeIn K cd75 "_law_call" = true) (k75 : PySem.W.keepIn K (.ref f75) = true)
    {oc76 kV76 dc76 pm76 cd76 ct76 : Value} {od76 an76 : Option Addr} {sl76 : Array (Option Value)} (a76 : PySem.W.nsIn K mainGlobals "law" = some (some (.ref f76))) (l76 : K.lookup f76 = some ⟨oc76, od76, .func (PySem.W.fnOf "law" "law" (defArgs st_76) (defBody st_76) (defScope st_76) .none kV76 dc76 pm76 an76 cd76 ct76), sl76⟩) (c76 : PySem.W.codeIn K cd76 "law" = true) (k76 : PySem.W.keepIn K (.ref f76) = true)
    (z_abs : PySem.W.nsIn K mainGlobals "abs" = some none)
    (z_all : PySem.W.nsIn K mainGlobals "all" = some none)
    (z_bool : PySem.W.nsIn K mainGlobals "bool" = some none)
    (z_enumerate : PySem.W.nsIn K mainGlobals "enumerate" = some none)
    (z_int : PySem.W.nsIn K mainGlobals "int" = some none)
    (z_isinstance : PySem.W.nsIn K mainGlobals "isinstance" = some none)
    (z_len : PySem.W.nsIn K mainGlobals "len" = some none)
    (z_list : PySem.W.nsIn K mainGlobals "list" = some none)
    (z_max : PySem.W.nsIn K mainGlobals "max" = some none)
    (z_min : PySem.W.nsIn K mainGlobals "min" = some none)
    (z_range : PySem.W.nsIn K mainGlobals "range" = some none)
    (z_set : PySem.W.nsIn K mainGlobals "set" = some none)
    (z_str : PySem.W.nsIn K mainGlobals "str" = some none)
    (z_sum : PySem.W.nsIn K mainGlobals "sum" = some none)
    (z_tuple : PySem.W.nsIn K mainGlobals "tuple" = some none)
    (z_zip : PySem.W.nsIn K mainGlobals "zip" = some none)
    {t_MOST_GONE : Tok} (n_MOST_GONE : PySem.W.nsIn K mainGlobals "MOST_GONE" = some (some (.int 5000 t_MOST_GONE)))
    {t_MOST_LOTS : Tok} (n_MOST_LOTS : PySem.W.nsIn K mainGlobals "MOST_LOTS" = some (some (.int 6 t_MOST_LOTS)))
    {t_MOST_PLACES : Tok} (n_MOST_PLACES : PySem.W.nsIn K mainGlobals "MOST_PLACES" = some (some (.int 12 t_MOST_PLACES)))
    {t_MOST_SHARE : Tok} (n_MOST_SHARE : PySem.W.nsIn K mainGlobals "MOST_SHARE" = some (some (.int 12 t_MOST_SHARE)))
    (hlaw : ∀ ns : List Int, ns.length ≤ 63 → callN T 4000 41 76 none [.scr ns] = .ok (.bl true) none) :
    ∃ fd : FuncData, (∀ (s : Shared) (v : Value), BindsTo s fd ⟨[v], []⟩ [("script", v)]) ∧ ∀ base : Heap, K.In base → base.Ns mainGlobals mg → FnOk P w K mg base (L2.CX P w) 41 fa fd ["script"] (spLaw K) := by
  have e := hfa.symm.trans (PySem.W.mg_of X G a76)
  cases e
  have F0 := fun_mk (st := st_0) l0 c0 k0
  have F1 := fun_mk (st := st_1) l1 c1 k1
  have F2 := fun_mk (st := st_2) l2 c2 k2
  have F3 := fun_mk (st := st_3) l3 c3 k3
  have F4 := fun_mk (st := st_4) l4 c4 k4
  have F5 := fun_mk (st := st_5) l5 c5 k5
  have F6 := fun_mk (st := st_6) l6 c6 k6
  have F7 := fun_mk (st := st_7) l7 c7 k7
  have F8 := fun_mk (st := st_8) l8 c8 k8
  have F9 := fun_mk (st := st_9) l9 c9 k9
  have F10 := fun_mk (st := st_10) l10 c10 k10
  have F11 := fun_mk (st := st_11) l11 c11 k11
  have F12 := fun_mk (st := st_12) l12 c12 k12
  have F13 := fun_mk (st := st_13) l13 c13 k13
  have F14 := fun_mk (st := st_14) l14 c14 k14
  have F15 := fun_mk (st := st_15) l15 c15 k15
  have F16 := fun_mk (st := st_16) l16 c16 k16
  have F17 := fun_mk (st := st_17) l17 c17 k17
  have F18 := fun_mk (st := st_18) l18 c18 k18
  have F19 := fun_mk (st := st_19) l19 c19 k19
  have F20 := fun_mk (st := st_20) l20 c20 k20
  have F21 := fun_mk (st := st_21) l21 c21 k21
  have F22 := fun_mk (st := st_22) l22 c22 k22
  have F23 := fun_mk (st := st_23) l23 c23 k23
  have F24 := fun_mk (st := st_24) l24 c24 k24
  have F25 := fun_mk (st := st_25) l25 c25 k25
  have F26 := fun_mk (st := st_26) l26 c26 k26
  have F27 := fun_mk (st := st_27) l27 c27 k27
  have F28 := fun_mk (st := st_28) l28 c28 k28
  have F29 := fun_mk (st := st_29) l29 c29 k29
  have F30 := fun_mk (st := st_30) l30 c30 k30
  have F31 := fun_mk (st := st_31) l31 c31 k31
  have F32 := fun_mk (st := st_32) l32 c32 k32
  have F33 := fun_mk (st := st_33) l33 c33 k33
  have F34 := fun_mk (st := st_34) l34 c34 k34
  have F35 := fun_mk (st := st_35) l35 c35 k35
  have F36 := fun_mk (st := st_36) l36 c36 k36
  have F37 := fun_mk (st := st_37) l37 c37 k37
  have F38 := fun_mk (st := st_38) l38 c38 k38
  have F39 := fun_mk (st := st_39) l39 c39 k39
  have F40 := fun_mk (st := st_40) l40 c40 k40
  have F41 := fun_mk (st := st_41) l41 c41 k41
  have F42 := fun_mk (st := st_42) l42 c42 k42
  have F43 := fun_mk (st := st_43) l43 c43 k43
  have F44 := fun_mk (st := st_44) l44 c44 k44
  have F45 := fun_mk (st := st_45) l45 c45 k45
  have F46 := fun_mk (st := st_46) l46 c46 k46
  have F47 := fun_mk (st := st_47) l47 c47 k47
  have F48 := fun_mk (st := st_48) l48 c48 k48
  have F49 := fun_mk (st := st_49) l49 c49 k49
  have F50 := fun_mk (st := st_50) l50 c50 k50
  have F51 := fun_mk (st := st_51) l51 c51 k51
  have F52 := fun_mk (st := st_52) l52 c52 k52
  have F53 := fun_mk (st := st_53) l53 c53 k53
  have F54 := fun_mk (st := st_54) l54 c54 k54
  have F55 := fun_mk (st := st_55) l55 c55 k55
  have F56 := fun_mk (st := st_56) l56 c56 k56
  have F57 := fun_mk (st := st_57) l57 c57 k57
  have F58 := fun_mk (st := st_58) l58 c58 k58
  have F59 := fun_mk (st := st_59) l59 c59 k59
  have F60 := fun_mk (st := st_60) l60 c60 k60
  have F61 := fun_mk (st := st_61) l61 c61 k61
  have F62 := fun_mk (st := st_62) l62 c62 k62
  have F63 := fun_mk (st := st_63) l63 c63 k63
  have F64 := fun_mk (st := st_64) l64 c64 k64
  have F65 := fun_mk (st := st_65) l65 c65 k65
  have F66 := fun_mk (st := st_66) l66 c66 k66
  have F67 := fun_mk (st := st_67) l67 c67 k67
  have F68 := fun_mk (st := st_68) l68 c68 k68
  have F69 := fun_mk (st := st_69) l69 c69 k69
  have F70 := fun_mk (st := st_70) l70 c70 k70
  have F71 := fun_mk (st := st_71) l71 c71 k71
  have F72 := fun_mk (st := st_72) l72 c72 k72
  have F73 := fun_mk (st := st_73) l73 c73 k73
  have F74 := fun_mk (st := st_74) l74 c74 k74
  have F75 := fun_mk (st := st_75) l75 c75 k75
  have F76 := fun_mk (st := st_76) l76 c76 k76
  have Gm : Mg [f0, f1, f2, f3, f4, f5, f6, f7, f8, f9, f10, f11, f12, f13, f14, f15, f16, f17, f18, f19, f20, f21, f22, f23, f24, f25, f26, f27, f28, f29, f30, f31, f32, f33, f34, f35, f36, f37, f38, f39, f40, f41, f42, f43, f44, f45, f46, f47, f48, f49, f50, f51, f52, f53, f54, f55, f56, f57, f58, f59, f60, f61, f62, f63, f64, f65, f66, f67, f68, f69, f70, f71, f72, f73, f74, f75, fa] mg := ⟨PySem.W.mg_none_of X G z_abs, PySem.W.mg_none_of X G z_all, PySem.W.mg_none_of X G z_bool, PySem.W.mg_none_of X G z_enumerate, PySem.W.mg_none_of X G z_int, PySem.W.mg_none_of X G z_isinstance, PySem.W.mg_none_of X G z_len, PySem.W.mg_none_of X G z_list, PySem.W.mg_none_of X G z_max, PySem.W.mg_none_of X G z_min, PySem.W.mg_none_of X G z_range, PySem.W.mg_none_of X G z_set, PySem.W.mg_none_of X G z_str, PySem.W.mg_none_of X G z_sum, PySem.W.mg_none_of X G z_tuple, PySem.W.mg_none_of X G z_zip, ⟨t_MOST_GONE, PySem.W.mg_of X G n_MOST_GONE⟩, ⟨t_MOST_LOTS, PySem.W.mg_of X G n_MOST_LOTS⟩, ⟨t_MOST_PLACES, PySem.W.mg_of X G n_MOST_PLACES⟩, ⟨t_MOST_SHARE, PySem.W.mg_of X G n_MOST_SHARE⟩, PySem.W.mg_of X G a0, PySem.W.mg_of X G a1, PySem.W.mg_of X G a2, PySem.W.mg_of X G a3, PySem.W.mg_of X G a4, PySem.W.mg_of X G a5, PySem.W.mg_of X G a6, PySem.W.mg_of X G a7, PySem.W.mg_of X G a8, PySem.W.mg_of X G a9, PySem.W.mg_of X G a10, PySem.W.mg_of X G a11, PySem.W.mg_of X G a12, PySem.W.mg_of X G a13, PySem.W.mg_of X G a14, PySem.W.mg_of X G a15, PySem.W.mg_of X G a16, PySem.W.mg_of X G a17, PySem.W.mg_of X G a18, PySem.W.mg_of X G a19, PySem.W.mg_of X G a20, PySem.W.mg_of X G a21, PySem.W.mg_of X G a22, PySem.W.mg_of X G a23, PySem.W.mg_of X G a24, PySem.W.mg_of X G a25, PySem.W.mg_of X G a26, PySem.W.mg_of X G a27, PySem.W.mg_of X G a28, PySem.W.mg_of X G a29, PySem.W.mg_of X G a30, PySem.W.mg_of X G a31, PySem.W.mg_of X G a32, PySem.W.mg_of X G a33, PySem.W.mg_of X G a34, PySem.W.mg_of X G a35, PySem.W.mg_of X G a36, PySem.W.mg_of X G a37, PySem.W.mg_of X G a38, PySem.W.mg_of X G a39, PySem.W.mg_of X G a40, PySem.W.mg_of X G a41, PySem.W.mg_of X G a42, PySem.W.mg_of X G a43, PySem.W.mg_of X G a44, PySem.W.mg_of X G a45, PySem.W.mg_of X G a46, PySem.W.mg_of X G a47, PySem.W.mg_of X G a48, PySem.W.mg_of X G a49, PySem.W.mg_of X G a50, PySem.W.mg_of X G a51, PySem.W.mg_of X G a52, PySem.W.mg_of X G a53, PySem.W.mg_of X G a54, PySem.W.mg_of X G a55, PySem.W.mg_of X G a56, PySem.W.mg_of X G a57, PySem.W.mg_of X G a58, PySem.W.mg_of X G a59, PySem.W.mg_of X G a60, PySem.W.mg_of X G a61, PySem.W.mg_of X G a62, PySem.W.mg_of X G a63, PySem.W.mg_of X G a64, PySem.W.mg_of X G a65, PySem.W.mg_of X G a66, PySem.W.mg_of X G a67, PySem.W.mg_of X G a68, PySem.W.mg_of X G a69, PySem.W.mg_of X G a70, PySem.W.mg_of X G a71, PySem.W.mg_of X G a72, PySem.W.mg_of X G a73, PySem.W.mg_of X G a74, PySem.W.mg_of X G a75, PySem.W.mg_of X G a76⟩
  refine ⟨PySem.W.fnOf "law" "law" (defArgs st_76) (defBody st_76) (defScope st_76) .none kV76 dc76 pm76 an76 cd76 ct76, fun s v => .of_eq rfl, fun base _ _ => ?_⟩
  have hall : ∀ k df, T k = some df → DefOk T frT 4000 (gm K [f0, f1, f2, f3, f4, f5, f6, f7, f8, f9, f10, f11, f12, f13, f14, f15, f16, f17, f18, f19, f20, f21, f22, f23, f24, f25, f26, f27, f28, f29, f30, f31, f32, f33, f34, f35, f36, f37, f38, f39, f40, f41, f42, f43, f44, f45, f46, f47, f48, f49, f50, f51, f52, f53, f54, f55, f56, f57, f58, f59, f60, f61, f62, f63, f64, f65, f66, f67, f68, f69, f70, f71, f72, f73, f74, f75, fa] []) P w mg base k df := fun k df hT => match k, hT with
    | 0, hT => by cases hT; exact ok_0 Gm F0
    | 1, hT => by cases hT; exact ok_1 Gm F1
    | 2, hT => by cases hT; exact ok_2 Gm F2
    | 3, hT => by cases hT; exact ok_3 Gm F3
    | 4, hT => by cases hT; exact ok_4 Gm F4
    | 5, hT => by cases hT; exact ok_5 Gm F5
    | 6, hT => by cases hT; exact ok_6 Gm F6
    | 7, hT => by cases hT; exact ok_7 Gm F7
    | 8, hT => by cases hT; exact ok_8 Gm F8
    | 9, hT => by cases hT; exact ok_9 Gm F9
    | 10, hT => by cases hT; exact ok_10 Gm F10
    | 11, hT => by cases hT; exact ok_11 Gm F11
    | 12, hT => by cases hT; exact ok_12 Gm F12
    | 13, hT => by cases hT; exact ok_13 Gm F13
    | 14, hT => by cases hT; exact ok_14 Gm F14
    | 15, hT => by cases hT; exact ok_15 Gm F15
    | 16, hT => by cases hT; exact ok_16 Gm F16
    | 17, hT => by cases hT; exact ok_17 Gm F17
    | 18, hT => by cases hT; exact ok_18 Gm F18
    | 19, hT => by cases hT; exact ok_19 Gm F19
    | 20, hT => by cases hT; exact ok_20 Gm F20
    | 21, hT => by cases hT; exact ok_21 Gm F21
    | 22, hT => by cases hT; exact ok_22 Gm F22
    | 23, hT => by cases hT; exact ok_23 Gm F23
    | 24, hT => by cases hT; exact ok_24 Gm F24
    | 25, hT => by cases hT; exact ok_25 Gm F25
    | 26, hT => by cases hT; exact ok_26 Gm F26
    | 27, hT => by cases hT; exact ok_27 Gm F27
    | 28, hT => by cases hT; exact ok_28 Gm F28
    | 29, hT => by cases hT; exact ok_29 Gm F29
    | 30, hT => by cases hT; exact ok_30 Gm F30
    | 31, hT => by cases hT; exact ok_31 Gm F31
    | 32, hT => by cases hT; exact ok_32 Gm F32
    | 33, hT => by cases hT; exact ok_33 Gm F33
    | 34, hT => by cases hT; exact ok_34 Gm F34
    | 35, hT => by cases hT; exact ok_35 Gm F35
    | 36, hT => by cases hT; exact ok_36 Gm F36
    | 37, hT => by cases hT; exact ok_37 Gm F37
    | 38, hT => by cases hT; exact ok_38 Gm F38
    | 39, hT => by cases hT; exact ok_39 Gm F39
    | 40, hT => by cases hT; exact ok_40 Gm F40
    | 41, hT => by cases hT; exact ok_41 Gm F41
    | 42, hT => by cases hT; exact ok_42 Gm F42
    | 43, hT => by cases hT; exact ok_43 Gm F43
    | 44, hT => by cases hT; exact ok_44 Gm F44
    | 45, hT => by cases hT; exact ok_45 Gm F45
    | 46, hT => by cases hT; exact ok_46 Gm F46
    | 47, hT => by cases hT; exact ok_47 Gm F47
    | 48, hT => by cases hT; exact ok_48 Gm F48
    | 49, hT => by cases hT; exact ok_49 Gm F49
    | 50, hT => by cases hT; exact ok_50 Gm F50
    | 51, hT => by cases hT; exact ok_51 Gm F51
    | 52, hT => by cases hT; exact ok_52 Gm F52
    | 53, hT => by cases hT; exact ok_53 Gm F53
    | 54, hT => by cases hT; exact ok_54 Gm F54
    | 55, hT => by cases hT; exact ok_55 Gm F55
    | 56, hT => by cases hT; exact ok_56 Gm F56
    | 57, hT => by cases hT; exact ok_57 Gm F57
    | 58, hT => by cases hT; exact ok_58 Gm F58
    | 59, hT => by cases hT; exact ok_59 Gm F59
    | 60, hT => by cases hT; exact ok_60 Gm F60
    | 61, hT => by cases hT; exact ok_61 Gm F61
    | 62, hT => by cases hT; exact ok_62 Gm F62
    | 63, hT => by cases hT; exact ok_63 Gm F63
    | 64, hT => by cases hT; exact ok_64 Gm F64
    | 65, hT => by cases hT; exact ok_65 Gm F65
    | 66, hT => by cases hT; exact ok_66 Gm F66
    | 67, hT => by cases hT; exact ok_67 Gm F67
    | 68, hT => by cases hT; exact ok_68 Gm F68
    | 69, hT => by cases hT; exact ok_69 Gm F69
    | 70, hT => by cases hT; exact ok_70 Gm F70
    | 71, hT => by cases hT; exact ok_71 Gm F71
    | 72, hT => by cases hT; exact ok_72 Gm F72
    | 73, hT => by cases hT; exact ok_73 Gm F73
    | 74, hT => by cases hT; exact ok_74 Gm F74
    | 75, hT => by cases hT; exact ok_75 Gm F75
    | 76, hT => by cases hT; exact ok_76 Gm F76
    | k + 77, hT => by cases hT
  exact (fn_step (T := T) (fr := frT) (M := 4000) (g := gm K [f0, f1, f2, f3, f4, f5, f6, f7, f8, f9, f10, f11, f12, f13, f14, f15, f16, f17, f18, f19, f20, f21, f22, f23, f24, f25, f26, f27, f28, f29, f30, f31, f32, f33, f34, f35, f36, f37, f38, f39, f40, f41, f42, f43, f44, f45, f46, f47, f48, f49, f50, f51, f52, f53, f54, f55, f56, f57, f58, f59, f60, f61, f62, f63, f64, f65, f66, f67, f68, f69, f70, f71, f72, f73, f74, f75, fa] []) (k := 76) (n := 40) (fun _ => rfl) hall (df := ⟨false, 1, 17, co_76⟩) rfl F76 sc_76 rfl (by decide) fun Φ n cdv A outer s H E hr hE => d_76 Gm hr hE).imp (law_sp (g := gm K [f0, f1, f2, f3, f4, f5, f6, f7, f8, f9, f10, f11, f12, f13, f14, f15, f16, f17, f18, f19, f20, f21, f22, f23, f24, f25, f26, f27, f28, f29, f30, f31, f32, f33, f34, f35, f36, f37, f38, f39, f40, f41, f42, f43, f44, f45, f46, f47, f48, f49, f50, f51, f52, f53, f54, f55, f56, f57, f58, f59, f60, f61, f62, f63, f64, f65, f66, f67, f68, f69, f70, f71, f72, f73, f74, f75, fa] []) hlaw)
end Lw
open PySem PySem.W PyProof.Rows
set_option maxHeartbeats 0 in
theorem PySem.Challenge.cw_partedbyties_k10_judges_and_odd_things_holds : PySem.Challenge.rw_partedbyties_k10_judges_and_odd_things.Holds := by
  w_on; o_law; k_head; (case hw => w_witness2)
  k_fill
  refine L2.walk_of (l := PySem.Challenge.rw_partedbyties_k10_judges_and_odd_things) (n := 63) (k := 41) (x := "script") (CX := fun w => L2.CX (PySem.Challenge.rw_partedbyties_k10_judges_and_odd_things).prog w) (sp := fun w => Pv.spLaw _) rfl (by decide) rfl ⟨rfl, by decide, by decide⟩ (fun w h Y => PySem.W.kIn_of Y) ?F (fun _ _ a ns hl hO hS => ⟨a, ns, rfl, hO, hS, hl, fun _ => rfl⟩) (fun _ _ _ _ _ z => Pv.cx_none z)
  case F =>
    intro w mg fa h KX G hmg
    refine' Lw.all_mk KX G hmg ?a0 ?l0 ?c0 ?k0 ?a1 ?l1 ?c1 ?k1 ?a2 ?l2 ?c2 ?k2 ?a3 ?l3 ?c3 ?k3 ?a4 ?l4 ?c4 ?k4 ?a5 ?l5 ?c5 ?k5 ?a6 ?l6 ?c6 ?k6 ?a7 ?l7 ?c7 ?k7 ?a8 ?l8 ?c8 ?k8 ?a9 ?l9 ?c9 ?k9 ?a10 ?l10 ?c10 ?k10 ?a11 ?l11 ?c11 ?k11 ?a12 ?l12 ?c12 ?k12 ?a13 ?l13 ?c13 ?k13 ?a14 ?l14 ?c14 ?k14 ?a15 ?l15 ?c15 ?k15 ?a16 ?l16 ?c16 ?k16 ?a17 ?l17 ?c17 ?k17 ?a18 ?l18 ?c18 ?k18 ?a19 ?l19 ?c19 ?k19 ?a20 ?l20 ?c20 ?k20 ?a21 ?l21 ?c21 ?k21 ?a22 ?l22 ?c22 ?k22 ?a23 ?l23 ?c23 ?k23 ?a24 ?l24 ?c24 ?k24 ?a25 ?l25 ?c25 ?k25 ?a26 ?l26 ?c26 ?k26 ?a27 ?l27 ?c27 ?k27 ?a28 ?l28 ?c28 ?k28 ?a29 ?l29 ?c29 ?k29 ?a30 ?l30 ?c30 ?k30 ?a31 ?l31 ?c31 ?k31 ?a32 ?l32 ?c32 ?k32 ?a33 ?l33 ?c33 ?k33 ?a34 ?l34 ?c34 ?k34 ?a35 ?l35 ?c35 ?k35 ?a36 ?l36 ?c36 ?k36 ?a37 ?l37 ?c37 ?k37 ?a38 ?l38 ?c38 ?k38 ?a39 ?l39 ?c39 ?k39 ?a40 ?l40 ?c40 ?k40 ?a41 ?l41 ?c41 ?k41 ?a42 ?l42 ?c42 ?k42 ?a43 ?l43 ?c43 ?k43 ?a44 ?l44 ?c44 ?k44 ?a45 ?l45 ?c45 ?k45 ?a46 ?l46 ?c46 ?k46 ?a47 ?l47 ?c47 ?k47 ?a48 ?l48 ?c48 ?k48 ?a49 ?l49 ?c49 ?k49 ?a50 ?l50 ?c50 ?k50 ?a51 ?l51 ?c51 ?k51 ?a52 ?l52 ?c52 ?k52 ?a53 ?l53 ?c53 ?k53 ?a54 ?l54 ?c54 ?k54 ?a55 ?l55 ?c55 ?k55 ?a56 ?l56 ?c56 ?k56 ?a57 ?l57 ?c57 ?k57 ?a58 ?l58 ?c58 ?k58 ?a59 ?l59 ?c59 ?k59 ?a60 ?l60 ?c60 ?k60 ?a61 ?l61 ?c61 ?k61 ?a62 ?l62 ?c62 ?k62 ?a63 ?l63 ?c63 ?k63 ?a64 ?l64 ?c64 ?k64 ?a65 ?l65 ?c65 ?k65 ?a66 ?l66 ?c66 ?k66 ?a67 ?l67 ?c67 ?k67 ?a68 ?l68 ?c68 ?k68 ?a69 ?l69 ?c69 ?k69 ?a70 ?l70 ?c70 ?k70 ?a71 ?l71 ?c71 ?k71 ?a72 ?l72 ?c72 ?k72 ?a73 ?l73 ?c73 ?k73 ?a74 ?l74 ?c74 ?k74 ?a75 ?l75 ?c75 ?k75 ?a76 ?l76 ?c76 ?k76 ?z_abs ?z_all ?z_bool ?z_enumerate ?z_int ?z_isinstance ?z_len ?z_list ?z_max ?z_min ?z_range ?z_set ?z_str ?z_sum ?z_tuple ?z_zip ?n_MOST_GONE ?n_MOST_LOTS ?n_MOST_PLACES ?n_MOST_SHARE (fun ns hn => Lw.law_ok hn)
    (case a0 => k_is)
    (case l0 => k_is)
    (case c0 => k_is)
    (case k0 => k_is)
    (case a1 => k_is)
    (case l1 => k_is)
    (case c1 => k_is)
    (case k1 => k_is)
    (case a2 => k_is)
    (case l2 => k_is)
    (case c2 => k_is)
    (case k2 => k_is)
    (case a3 => k_is)
    (case l3 => k_is)
    (case c3 => k_is)
    (case k3 => k_is)
    (case a4 => k_is)
    (case l4 => k_is)
    (case c4 => k_is)
    (case k4 => k_is)
    (case a5 => k_is)
    (case l5 => k_is)
    (case c5 => k_is)
    (case k5 => k_is)
    (case a6 => k_is)
    (case l6 => k_is)
    (case c6 => k_is)
    (case k6 => k_is)
    (case a7 => k_is)
    (case l7 => k_is)
    (case c7 => k_is)
    (case k7 => k_is)
    (case a8 => k_is)
    (case l8 => k_is)
    (case c8 => k_is)
    (case k8 => k_is)
    (case a9 => k_is)
    (case l9 => k_is)
    (case c9 => k_is)
    (case k9 => k_is)
    (case a10 => k_is)
    (case l10 => k_is)
    (case c10 => k_is)
    (case k10 => k_is)
    (case a11 => k_is)
    (case l11 => k_is)
    (case c11 => k_is)
    (case k11 => k_is)
    (case a12 => k_is)
    (case l12 => k_is)
    (case c12 => k_is)
    (case k12 => k_is)
    (case a13 => k_is)
    (case l13 => k_is)
    (case c13 => k_is)
    (case k13 => k_is)
    (case a14 => k_is)
    (case l14 => k_is)
    (case c14 => k_is)
    (case k14 => k_is)
    (case a15 => k_is)
    (case l15 => k_is)
    (case c15 => k_is)
    (case k15 => k_is)
    (case a16 => k_is)
    (case l16 => k_is)
    (case c16 => k_is)
    (case k16 => k_is)
    (case a17 => k_is)
    (case l17 => k_is)
    (case c17 => k_is)
    (case k17 => k_is)
    (case a18 => k_is)
    (case l18 => k_is)
    (case c18 => k_is)
    (case k18 => k_is)
    (case a19 => k_is)
    (case l19 => k_is)
    (case c19 => k_is)
    (case k19 => k_is)
    (case a20 => k_is)
    (case l20 => k_is)
    (case c20 => k_is)
    (case k20 => k_is)
    (case a21 => k_is)
    (case l21 => k_is)
    (case c21 => k_is)
    (case k21 => k_is)
    (case a22 => k_is)
    (case l22 => k_is)
    (case c22 => k_is)
    (case k22 => k_is)
    (case a23 => k_is)
    (case l23 => k_is)
    (case c23 => k_is)
    (case k23 => k_is)
    (case a24 => k_is)
    (case l24 => k_is)
    (case c24 => k_is)
    (case k24 => k_is)
    (case a25 => k_is)
    (case l25 => k_is)
    (case c25 => k_is)
    (case k25 => k_is)
    (case a26 => k_is)
    (case l26 => k_is)
    (case c26 => k_is)
    (case k26 => k_is)
    (case a27 => k_is)
    (case l27 => k_is)
    (case c27 => k_is)
    (case k27 => k_is)
    (case a28 => k_is)
    (case l28 => k_is)
    (case c28 => k_is)
    (case k28 => k_is)
    (case a29 => k_is)
    (case l29 => k_is)
    (case c29 => k_is)
    (case k29 => k_is)
    (case a30 => k_is)
    (case l30 => k_is)
    (case c30 => k_is)
    (case k30 => k_is)
    (case a31 => k_is)
    (case l31 => k_is)
    (case c31 => k_is)
    (case k31 => k_is)
    (case a32 => k_is)
    (case l32 => k_is)
    (case c32 => k_is)
    (case k32 => k_is)
    (case a33 => k_is)
    (case l33 => k_is)
    (case c33 => k_is)
    (case k33 => k_is)
    (case a34 => k_is)
    (case l34 => k_is)
    (case c34 => k_is)
    (case k34 => k_is)
    (case a35 => k_is)
    (case l35 => k_is)
    (case c35 => k_is)
    (case k35 => k_is)
    (case a36 => k_is)
    (case l36 => k_is)
    (case c36 => k_is)
    (case k36 => k_is)
    (case a37 => k_is)
    (case l37 => k_is)
    (case c37 => k_is)
    (case k37 => k_is)
    (case a38 => k_is)
    (case l38 => k_is)
    (case c38 => k_is)
    (case k38 => k_is)
    (case a39 => k_is)
    (case l39 => k_is)
    (case c39 => k_is)
    (case k39 => k_is)
    (case a40 => k_is)
    (case l40 => k_is)
    (case c40 => k_is)
    (case k40 => k_is)
    (case a41 => k_is)
    (case l41 => k_is)
    (case c41 => k_is)
    (case k41 => k_is)
    (case a42 => k_is)
    (case l42 => k_is)
    (case c42 => k_is)
    (case k42 => k_is)
    (case a43 => k_is)
    (case l43 => k_is)
    (case c43 => k_is)
    (case k43 => k_is)
    (case a44 => k_is)
    (case l44 => k_is)
    (case c44 => k_is)
    (case k44 => k_is)
    (case a45 => k_is)
    (case l45 => k_is)
    (case c45 => k_is)
    (case k45 => k_is)
    (case a46 => k_is)
    (case l46 => k_is)
    (case c46 => k_is)
    (case k46 => k_is)
    (case a47 => k_is)
    (case l47 => k_is)
    (case c47 => k_is)
    (case k47 => k_is)
    (case a48 => k_is)
    (case l48 => k_is)
    (case c48 => k_is)
    (case k48 => k_is)
    (case a49 => k_is)
    (case l49 => k_is)
    (case c49 => k_is)
    (case k49 => k_is)
    (case a50 => k_is)
    (case l50 => k_is)
    (case c50 => k_is)
    (case k50 => k_is)
    (case a51 => k_is)
    (case l51 => k_is)
    (case c51 => k_is)
    (case k51 => k_is)
    (case a52 => k_is)
    (case l52 => k_is)
    (case c52 => k_is)
    (case k52 => k_is)
    (case a53 => k_is)
    (case l53 => k_is)
    (case c53 => k_is)
    (case k53 => k_is)
    (case a54 => k_is)
    (case l54 => k_is)
    (case c54 => k_is)
    (case k54 => k_is)
    (case a55 => k_is)
    (case l55 => k_is)
    (case c55 => k_is)
    (case k55 => k_is)
    (case a56 => k_is)
    (case l56 => k_is)
    (case c56 => k_is)
    (case k56 => k_is)
    (case a57 => k_is)
    (case l57 => k_is)
    (case c57 => k_is)
    (case k57 => k_is)
    (case a58 => k_is)
    (case l58 => k_is)
    (case c58 => k_is)
    (case k58 => k_is)
    (case a59 => k_is)
    (case l59 => k_is)
    (case c59 => k_is)
    (case k59 => k_is)
    (case a60 => k_is)
    (case l60 => k_is)
    (case c60 => k_is)
    (case k60 => k_is)
    (case a61 => k_is)
    (case l61 => k_is)
    (case c61 => k_is)
    (case k61 => k_is)
    (case a62 => k_is)
    (case l62 => k_is)
    (case c62 => k_is)
    (case k62 => k_is)
    (case a63 => k_is)
    (case l63 => k_is)
    (case c63 => k_is)
    (case k63 => k_is)
    (case a64 => k_is)
    (case l64 => k_is)
    (case c64 => k_is)
    (case k64 => k_is)
    (case a65 => k_is)
    (case l65 => k_is)
    (case c65 => k_is)
    (case k65 => k_is)
    (case a66 => k_is)
    (case l66 => k_is)
    (case c66 => k_is)
    (case k66 => k_is)
    (case a67 => k_is)
    (case l67 => k_is)
    (case c67 => k_is)
    (case k67 => k_is)
    (case a68 => k_is)
    (case l68 => k_is)
    (case c68 => k_is)
    (case k68 => k_is)
    (case a69 => k_is)
    (case l69 => k_is)
    (case c69 => k_is)
    (case k69 => k_is)
    (case a70 => k_is)
    (case l70 => k_is)
    (case c70 => k_is)
    (case k70 => k_is)
    (case a71 => k_is)
    (case l71 => k_is)
    (case c71 => k_is)
    (case k71 => k_is)
    (case a72 => k_is)
    (case l72 => k_is)
    (case c72 => k_is)
    (case k72 => k_is)
    (case a73 => k_is)
    (case l73 => k_is)
    (case c73 => k_is)
    (case k73 => k_is)
    (case a74 => k_is)
    (case l74 => k_is)
    (case c74 => k_is)
    (case k74 => k_is)
    (case a75 => k_is)
    (case l75 => k_is)
    (case c75 => k_is)
    (case k75 => k_is)
    (case a76 => k_is)
    (case l76 => k_is)
    (case c76 => k_is)
    (case k76 => k_is)
    (case z_abs => k_is)
    (case z_all => k_is)
    (case z_bool => k_is)
    (case z_enumerate => k_is)
    (case z_int => k_is)
    (case z_isinstance => k_is)
    (case z_len => k_is)
    (case z_list => k_is)
    (case z_max => k_is)
    (case z_min => k_is)
    (case z_range => k_is)
    (case z_set => k_is)
    (case z_str => k_is)
    (case z_sum => k_is)
    (case z_tuple => k_is)
    (case z_zip => k_is)
    (case n_MOST_GONE => k_is)
    (case n_MOST_LOTS => k_is)
    (case n_MOST_PLACES => k_is)
    (case n_MOST_SHARE => k_is)
