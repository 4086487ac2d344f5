import PyProof.Rows.All
import Wide.All
import OpenK.AllK
import Wide.FinOn
import HandS.ForMost
import HandS.ForExc
import HandS.IsInst
import HandS.Wide
import HandS.Deep
import HandS.TupAny
import HandS.Conv
import HandS.Style
import HandS.Defaults
import HandS.More
import HandS.Zip
import HandS.MakeKwOnly
import HandS.MakeKw
import HandS.SlotsOwn
import KE.KOpsOwn
import KE.KFmtOwn
import KE.KCallOwn
import PyProof.InstNe
import PyProof.FactsAll.int_1
import PyProof.FactsAll.int_3
import HandS.OwnEq
import HandS.Star
import HandS.Codes
import HandS.HeadEnd
import PySem.Challenge.RW_waysbelow_k04_powers_added_and_multiplie
set_option Elab.async false
set_option linter.all false
set_option maxHeartbeats 4000000
set_option maxRecDepth 100000
/-! Te1: trees of data, how they lie in the tracked heap, frames of trees. -/
namespace TE
open PySem L2
/-- a text by its signs -/
def tx (s : List Nat) : Str := ⟨s.toArray⟩
/-- data as trees -/
inductive D where
  | non
  | bl (b : Bool)
  | int (i : Int)
  | str (s : List Nat)
  | tup (ds : List D)
  | lst (ds : List D)
  | dct (ks vs : List D)
  | obj (C : Nat) (ds : List D)
  | cls (C : Nat)
  | ty (n : String)
  | scr (ns : List Int)
/-- what does not change through a law: the written part, the classes' addresses, their fields -/
structure G where
  K : PySem.W.Frag
  ca : Nat → Addr
  cf : Nat → List Str
def kD : Key → D
  | .inl i => .int i
  | .inr x => .str x.cps.toList
/-- a list that is never written: locked, or of the written part -/
def SqF (K : PySem.W.Frag) (H : Hp) (a : Addr) (xs : List V) : Prop :=
  (∃ o, H a = some (.frz o (.lst xs))) ∨
    ∃ (o : Obj) (its : Array Value) (n : Nat), K.lookup a = some o ∧ o.cls = .type "list" ∧ o.dict = none ∧ o.data = .seq its n ∧ its.size ≤ sizeLine ∧ Vals xs its.toList
theorem SqF.sq {K : PySem.W.Frag} {H : Hp} {a : Addr} {xs : List V} (h : SqF K H a xs) : SqL K H a xs := by
  rcases h with ⟨o, h⟩ | h
  · exact .inl (.inr ⟨o, h⟩)
  · exact .inr h
mutual
/-- the value stands for the tree; every list, dict, object of it lies at an address of F -/
inductive Rep (g : G) (F : Addr → Prop) (H : Hp) : V → D → Prop
  | non : Rep g F H .non .non
  | bl (b : Bool) : Rep g F H (.bl b) (.bl b)
  | int (i : Int) : Rep g F H (.int i) (.int i)
  | str (s : List Nat) : Rep g F H (.str (tx s)) (.str s)
  | tup {a : Addr} {vs : List V} {ds : List D} : SqT g.K H a vs → Reps g F H vs ds → Rep g F H (.ref a) (.tup ds)
  | lst {a : Addr} {vs : List V} {ds : List D} : F a → H a = some (.lst vs) → Reps g F H vs ds → Rep g F H (.ref a) (.lst ds)
  | dct {a : Addr} {kvs : List (Key × V)} {ks vs : List D} : F a → H a = some (.dK kvs) → ks = kvs.map (fun p => kD p.1) → (kvs.map (·.1)).Nodup → Reps g F H (kvs.map (·.2)) vs → Rep g F H (.ref a) (.dct ks vs)
  | obj {a : Addr} {C : Nat} {dx : Addr} {vs : List V} {ds : List D} : F a → H a = some (.ins (g.ca C) dx ((g.cf C).zip vs)) → vs.length ≤ (g.cf C).length → Reps g F H vs ds → Rep g F H (.ref a) (.obj C ds)
  | cls (C : Nat) : Rep g F H (.ref (g.ca C)) (.cls C)
  | ty (n : String) : Rep g F H (.ty n) (.ty n)
  | scr {a : Addr} {ns : List Int} : SqF g.K H a (ns.map V.int) → Rep g F H (.ref a) (.scr ns)
inductive Reps (g : G) (F : Addr → Prop) (H : Hp) : List V → List D → Prop
  | nil : Reps g F H [] []
  | cons {v : V} {d : D} {vs : List V} {ds : List D} : Rep g F H v d → Reps g F H vs ds → Reps g F H (v :: vs) (d :: ds)
end
/-- trees that change in place -/
def D.isM : D → Bool
  | .lst _ => true
  | .dct _ _ => true
  | .obj _ _ => true
  | _ => false
/-- at p stands the tree's topmost object; what is within lies at F -/
def Root (g : G) (F : Addr → Prop) (H : Hp) (p : Addr) : D → Prop
  | .lst ds => ∃ vs, H p = some (.lst vs) ∧ Reps g F H vs ds
  | .dct ks ds => ∃ kvs : List (Key × V), H p = some (.dK kvs) ∧ ks = kvs.map (fun p => kD p.1) ∧ (kvs.map (·.1)).Nodup ∧ Reps g F H (kvs.map (·.2)) ds
  | .obj C ds => ∃ dx vs, H p = some (.ins (g.ca C) dx ((g.cf C).zip vs)) ∧ vs.length ≤ (g.cf C).length ∧ Reps g F H vs ds
  | _ => False
/-- an object that may be written -/
def mutO : HO → Prop
  | .lst _ => True
  | .dK _ => True
  | .ins _ _ _ => True
  | _ => False
/-- the addresses at M may be written: none of them lies at F -/
def MOk (M F : Addr → Prop) (H : Hp) : Prop := ∀ a, M a → ¬ F a ∧ ∃ o, H a = some o ∧ mutO o
/-- a step: F grows by new addresses alone; all but M stays -/
structure Stp (M F : Addr → Prop) (H : Hp) (F' : Addr → Prop) (H' : Hp) : Prop where
  fm : ∀ a, F a → F' a
  fn : ∀ a, F' a → F a ∨ H a = none ∨ M a
  kp : ∀ a o, H a = some o → ¬ M a → H' a = some o
  th : ∀ a o, H a = some o → ∃ o', H' a = some o'
  fd : ∀ a, F' a → ∃ o, H' a = some o
section
variable {g : G} {M M' F F' F'' : Addr → Prop} {H H' H'' : Hp}
theorem MOk.rd (m : MOk M F H) {a : Addr} {u : HO} (h : Rd H a u) (nu : ¬ mutO u) : ¬ M a := fun ha => by
  obtain ⟨_, o, ho, mo⟩ := m a ha
  rcases h with h | ⟨o', h⟩
  · rw [h] at ho; cases ho; exact nu mo
  · rw [h] at ho; cases ho; exact mo
theorem rd_keep {a : Addr} {u : HO} (h : Rd H a u) (k : ∀ o, H a = some o → H' a = some o) : Rd H' a u := by
  rcases h with h | ⟨o, h⟩
  · exact .inl (k _ h)
  · exact .inr ⟨o, k _ h⟩
theorem sqT_keep {K : PySem.W.Frag} {a : Addr} {vs : List V} (m : MOk M F H) (k : ∀ a o, H a = some o → ¬ M a → H' a = some o) (h : SqT K H a vs) : SqT K H' a vs := by
  rcases h with h | h
  · exact .inl (rd_keep h fun o e => k a o e (m.rd h (fun z => z)))
  · exact .inr h
mutual
theorem Rep.mono (m : MOk M F H) (f : ∀ a, F a → F' a) (k : ∀ a o, H a = some o → ¬ M a → H' a = some o) : ∀ {v : V} {d : D}, Rep g F H v d → Rep g F' H' v d
  | _, _, .non => .non
  | _, _, .bl b => .bl b
  | _, _, .int i => .int i
  | _, _, .str s => .str s
  | _, _, .tup h r => .tup (sqT_keep m k h) (Reps.mono m f k r)
  | _, _, .lst fa h r => .lst (f _ fa) (k _ _ h fun z => (m _ z).1 fa) (Reps.mono m f k r)
  | _, _, .dct fa h e nd r => .dct (f _ fa) (k _ _ h fun z => (m _ z).1 fa) e nd (Reps.mono m f k r)
  | _, _, .obj fa h l r => .obj (f _ fa) (k _ _ h fun z => (m _ z).1 fa) l (Reps.mono m f k r)
  | _, _, .cls C => .cls C
  | _, _, .ty n => .ty n
  | _, _, .scr h => .scr (by
      rcases h with ⟨o, h⟩ | h
      · refine .inl ⟨o, k _ _ h fun z => ?_⟩
        obtain ⟨_, o', ho, mo⟩ := m _ z
        rw [h] at ho; cases ho; exact mo
      · exact .inr h)
theorem Reps.mono (m : MOk M F H) (f : ∀ a, F a → F' a) (k : ∀ a o, H a = some o → ¬ M a → H' a = some o) : ∀ {vs : List V} {ds : List D}, Reps g F H vs ds → Reps g F' H' vs ds
  | _, _, .nil => .nil
  | _, _, .cons r rs => .cons (Rep.mono m f k r) (Reps.mono m f k rs)
end
end
end TE
/-! Te2: a small language of expressions and statements over trees, and what it computes. -/
namespace TE
open PySem L2
/-! ### data -/
mutual
def eqD : D → D → Bool
  | .non, .non => true
  | .bl a, .bl b => a == b
  | .bl a, .int j => (if a then 1 else 0) == j
  | .int i, .bl b => i == (if b then 1 else 0)
  | .int i, .int j => i == j
  | .str x, .str y => x == y
  | .lst xs, .lst ys => eqDs xs ys
  | .tup xs, .tup ys => eqDs xs ys
  | _, _ => false
def eqDs : List D → List D → Bool
  | [], [] => true
  | x :: xs, y :: ys => eqD x y && eqDs xs ys
  | _, _ => false
end
mutual
/-- plain data, nested less than n deep -/
def dat : Nat → D → Bool
  | _, .non => true
  | _, .bl _ => true
  | _, .int _ => true
  | _, .str s => s.all (fun c => decide (c < 1114112))
  | n + 1, .lst ds => dats n ds
  | n + 1, .tup ds => dats n ds
  | _, _ => false
def dats : Nat → List D → Bool
  | _, [] => true
  | n, d :: ds => dat n d && dats n ds
end
/-- lists of numbers, of texts .. -/
def allInt : List D → Option (List Int)
  | [] => some []
  | .int i :: r => (allInt r).map (i :: ·)
  | _ => none
def allBl : List D → Option (List Bool)
  | [] => some []
  | .bl i :: r => (allBl r).map (i :: ·)
  | _ => none
def allStr : List D → Option (List (List Nat))
  | [] => some []
  | .str i :: r => (allStr r).map (i :: ·)
  | _ => none
def allLst : List D → Option (List (List D))
  | [] => some []
  | .lst i :: r => (allLst r).map (i :: ·)
  | _ => none
/-- the place of an index, from either end -/
def ixOf (n : Nat) (i : Int) : Option Nat := if 0 ≤ i then (if i.toNat < n then some i.toNat else none) else (if (-i).toNat ≤ n then some (n - (-i).toNat) else none)
/-- a slice's end, clamped -/
def slOf (n : Nat) : Option Int → Nat → Nat
  | none, d => d
  | some i, _ => if 0 ≤ i then min i.toNat n else n - min (-i).toNat n
def cut {α : Type} (xs : List α) (lo hi : Option Int) : List α := (xs.drop (slOf xs.length lo 0)).take (slOf xs.length hi xs.length - slOf xs.length lo 0)
def joinT (sep : List Nat) : List (List Nat) → List Nat
  | [] => []
  | [x] => x
  | x :: y :: r => x ++ sep ++ joinT sep (y :: r)
/-! ### operations -/
inductive Ty where
  | int | bool | str | list | tuple | dict | none
  deriving DecidableEq
inductive Cl where
  | ty (t : Ty)
  | own (C : Nat)
  deriving DecidableEq
inductive Bf where
  | len | int | list | tuple | all | any | sum | sum2 | sorted | max2 | min2 | str | bool
  deriving DecidableEq
inductive Mt where
  | join | split
  deriving DecidableEq
inductive P where
  | add | sub | mul | fdv | mod | pow | neg
  | eq | ne | lt | le | gt | ge | inn | nin | isN | noN
  | bf (b : Bf)
  | idx
  | tup | lst | dct
  | isi (n : Nat) (cs : List Cl)
  deriving DecidableEq
/-- what own classes do by their own defs: operators, comparisons, str, static methods -/
inductive Ow where
  | add | mul | eq | ne | str | eqL
  | stat (C : Nat) (m : Str)
  deriving DecidableEq
def isC (d : D) : Cl → Bool
  | .ty .int => match d with | .int _ => true | .bl _ => true | _ => false
  | .ty .bool => match d with | .bl _ => true | _ => false
  | .ty .str => match d with | .str _ => true | _ => false
  | .ty .list => match d with | .lst _ => true | .scr _ => true | _ => false
  | .ty .tuple => match d with | .tup _ => true | _ => false
  | .ty .dict => match d with | .dct _ _ => true | _ => false
  | .ty .none => match d with | .non => true | _ => false
  | .own C => match d with | .obj C' _ => C == C' | _ => false
def tyD : D → Option Cl
  | .non => some (.ty .none)
  | .bl _ => some (.ty .bool)
  | .int _ => some (.ty .int)
  | .str _ => some (.ty .str)
  | .lst _ => some (.ty .list)
  | .tup _ => some (.ty .tuple)
  | .dct _ _ => some (.ty .dict)
  | .obj C _ => some (.own C)
  | _ => none
def clOk (n : Nat) : Cl → Bool
  | .own C => decide (C < n)
  | _ => true
def small (n : Nat) : Bool := decide (n ≤ 1000000)
def pAdd : D → D → Option D
  | .int i, .int j => some (.int (i + j))
  | .str a, .str b => if small (a.length + b.length) then some (.str (a ++ b)) else none
  | .lst a, .lst b => if small (a.length + b.length) then some (.lst (a ++ b)) else none
  | .tup a, .tup b => if small (a.length + b.length) then some (.tup (a ++ b)) else none
  | _, _ => none
def pMul : D → D → Option D
  | .int i, .int j => if i.natAbs.log2 + j.natAbs.log2 < 1000000 then some (.int (i * j)) else none
  | .lst a, .int j => if small (a.length * j.toNat) && decide (-1000000 ≤ j) && decide (j ≤ 1000000) then some (.lst (List.replicate j.toNat a).flatten) else none
  | _, _ => none
def pEq (a b : D) : Option Bool :=
  match a, b with
  | .str x, .str y => some (x == y)
  | a, b => if dat 60 a && dat 60 b then some (eqD a b) else none
def pIn (x : D) : D → Option Bool
  | .lst ds => if dat 60 x && dats 60 ds then some (ds.any fun z => eqD z x) else none
  | .tup ds => if dat 60 x && dats 60 ds then some (ds.any fun z => eqD z x) else none
  | _ => none
def ltT : List Nat → List Nat → Bool
  | _, [] => false
  | [], _ :: _ => true
  | x :: xs, y :: ys => decide (x < y) || (x == y && ltT xs ys)
def pLt : D → D → Option Bool
  | .int i, .int j => some (decide (i < j))
  | .str a, .str b => some (ltT a b)
  | _, _ => none
def pLe : D → D → Option Bool
  | .int i, .int j => some (decide (i ≤ j))
  | .str a, .str b => some (!ltT b a)
  | _, _ => none
def pLen : D → Option Nat
  | .str s => some s.length
  | .lst s => some s.length
  | .tup s => some s.length
  | .dct ks _ => some ks.length
  | _ => none
/-- what a loop over it gives -/
def itD : D → Option (List D)
  | .lst ds => some ds
  | .tup ds => some ds
  | .str s => some (s.map fun c => .str [c])
  | _ => none
/-- a number's signs -/
def decT (i : Int) : List Nat := (Str.ofString (toString i)).cps.toList
def pBf (b : Bf) (ds : List D) : Option D :=
  match b, ds with
  | .len, [d] => (pLen d).bind fun n => if small n then some (.int n) else none
  | .int, [.int i] => some (.int i)
  | .int, [.bl b] => some (.int (if b then 1 else 0))
  | .str, [.int i] => if i.natAbs.log2 < 1900 then some (.str (decT i)) else none
  | .list, [.lst ds] => some (.lst ds)
  | .list, [.tup ds] => some (.lst ds)
  | .list, [.str s] => if small s.length then some (.lst (s.map fun c => .str [c])) else none
  | .list, [.dct ks _] => if small ks.length then some (.lst ks) else none
  | .tuple, [.lst ds] => some (.tup ds)
  | .tuple, [.tup ds] => some (.tup ds)
  | .all, [.lst ds] => (allBl ds).map fun bs => .bl (bs.all id)
  | .any, [.lst ds] => (allBl ds).map fun bs => .bl (bs.any id)
  | .sum, [.lst ds] => (allInt ds).map fun bs => .int bs.sum
  | .max2, [.int i, .int j] => some (.int (if j > i then j else i))
  | .min2, [.int i, .int j] => some (.int (if j < i then j else i))
  | _, _ => none
def pMt (m : Mt) (o : D) (ds : List D) : Option D :=
  match m, o, ds with
  | .join, .str s, [.lst ds] => (allStr ds).bind fun ys => if small ((ys.map (·.length)).sum + ys.length * s.length) then some (.str (joinT s ys)) else none
  | _, _, _ => none
def pIdx : D → D → Option D
  | .lst ds, .int i => (ixOf ds.length i).bind fun k => ds[k]?
  | .tup ds, .int i => (ixOf ds.length i).bind fun k => ds[k]?
  | .str s, .int i => if small s.length then (ixOf s.length i).bind fun k => (s[k]?).map fun c => .str [c] else none
  | _, _ => none
def asInt : D → Option Int
  | .int i => some i
  | _ => none
def pSl (d : D) (lo hi : Option Int) : Option D :=
  match d with
  | .lst ds => some (.lst (cut ds lo hi))
  | .tup ds => some (.tup (cut ds lo hi))
  | .str s => if small s.length then some (.str (cut s lo hi)) else none
  | .scr ns => some (.lst ((cut ns lo hi).map .int))
  | _ => none
def isNonD : D → Bool
  | .non => true
  | _ => false
def bl? : Option Bool → Option D := Option.map .bl
def pD (p : P) (ds : List D) : Option D :=
  match p, ds with
  | .add, [a, b] => pAdd a b
  | .sub, [.int i, .int j] => some (.int (i - j))
  | .mul, [a, b] => pMul a b
  | .fdv, [.int i, .int j] => if 0 < j ∧ j.natAbs.log2 < 9000 then some (.int (i / j)) else none
  | .mod, [.int i, .int j] => if 0 < j then some (.int (i % j)) else none
  | .pow, [.int i, .int j] => if 0 ≤ j ∧ j ≤ 1000 ∧ i.natAbs < 18446744073709551616 then some (.int (i ^ j.toNat)) else none
  | .neg, [.int i] => some (.int (-i))
  | .eq, [a, b] => bl? (pEq a b)
  | .ne, [a, b] => bl? ((pEq a b).map (!·))
  | .lt, [a, b] => bl? (pLt a b)
  | .le, [a, b] => bl? (pLe a b)
  | .gt, [a, b] => bl? (pLt b a)
  | .ge, [a, b] => bl? (pLe b a)
  | .inn, [a, b] => bl? (pIn a b)
  | .nin, [a, b] => bl? ((pIn a b).map (!·))
  | .isN, [a] => some (.bl (isNonD a))
  | .noN, [a] => some (.bl (!isNonD a))
  | .bf b, ds => pBf b ds
  | .idx, [a, b] => pIdx a b
  | .tup, ds => if small ds.length then some (.tup ds) else none
  | .lst, ds => if small ds.length then some (.lst ds) else none
  | .dct, [] => some (.dct [] [])
  | .isi n cs, [a] => (tyD a).bind fun t => if clOk n t then some (.bl (cs.any (isC a))) else none
  | _, _ => none
/-! ### the language -/
inductive Tg where
  | nm (i : Nat)
  | tp (is : List Nat)
  deriving DecidableEq
mutual
inductive E where
  | bad
  | v (i : Nat)
  | k (d : D)
  | op (p : P) (es : List E)
  | and_ (a b : E)
  | or_ (a b : E)
  | not_ (a : E)
  | ite (c a b : E)
  | chain (p q : P) (a b c : E)
  | call (f : Nat) (es : List E) (dfl : List D)
  | mk (C : Nat) (es : List E) (dfl : List D)
  | meth (m : Str) (o : E) (es : List E) (dfl : List D)
  | fld (f : Str) (e : E)
  | met (m : Mt) (o : E) (es : List E)
  | sl (a : E) (lo hi : List E)
  | lc (own : List Nat) (tg : Tg) (it : It) (ifs : List E) (elt : E)
  | pop (i : Nat) (e : E)
  | mv (i : Nat)
  | callK (s : Nat) (es : List E)
  | mkK (s : Nat) (C : Nat) (es : List E)
  | own (w : Ow) (es : List E)
inductive It where
  | val (e : E)
  | slot (i : Nat)
  | rng (e : E)
  | rng2 (a b : E)
  | zip (a b : E)
  | enu (e : E)
end
inductive S where
  | bad
  | pass
  | expr (e : E)
  | set (i : Nat) (m : Bool) (e : E)
  | par (is : List (Nat × Bool)) (es : List E)
  | unp (is : List Nat) (e : E)
  | aug (p : P) (i : Nat) (e : E)
  | seti (i : Nat) (j e : E)
  | setf (i : Nat) (f : Str) (e : E)
  | app (i : Nat) (e : E)
  | if_ (c : E) (a b : List S)
  | whl (c : E) (b : List S)
  | for_ (tg : Tg) (it : It) (b : List S)
  | ret (e : E)
  | brk
  | cont
/-! ### what it computes -/
abbrev Ev := List (Option D)
inductive R (α : Type) where
  | ok (a : α) (e : Ev)
  | err (x : D) (e : Ev)
  | bad
def R.bind {α β : Type} : R α → (α → Ev → R β) → R β
  | .ok a e, f => f a e
  | .err x e, _ => .err x e
  | .bad, _ => .bad
/-- a call's end: the value, the trees of the arguments that were lent to be written -/
inductive C where
  | ok (d : D) (outs : List (Option D))
  | err (x : D)
  | bad
/-- a slot's kind: plain (never written in place), written in place, lent to be read -/
inductive Kd where
  | n | m | b
  deriving DecidableEq
/-- what a def is to its callers: the kinds of its parameters, whether what it gives is its own -/
structure Fi where
  kd : List Kd
  own : Bool
def isM : Kd → Bool
  | .m => true
  | _ => false
def Fi.io (f : Fi) : List Bool := f.kd.map isM
/-- how a call's values reach the parameters: by place, or a default (its place among the def's, its tree) -/
structure Sh where
  f : Nat
  np : Nat
  ks : List Str
  sel : List (Nat ⊕ (Nat × D))
def pick : List (Nat ⊕ (Nat × D)) → List D → Option (List D)
  | [], _ => some []
  | .inl j :: r, ds => (ds[j]?).bind fun d => (pick r ds).map (d :: ·)
  | .inr (_, d) :: r, ds => (pick r ds).map (d :: ·)
def pickE : List (Nat ⊕ (Nat × D)) → List E → List E
  | [], _ => []
  | .inl j :: r, es => es.getD j .bad :: pickE r es
  | .inr (_, d) :: r, es => .k d :: pickE r es
structure Pr where
  sh : Nat → Sh
  fi : Nat → Fi
  call : Nat → List D → C
  init : Nat → Nat        -- a class's __init__
  flds : Nat → List Str
  meth : Nat → Str → Nat
  dun : Nat → Str → Option Nat   -- a class's own method by its name
  sta : Nat → Str → Option Nat   -- .. its static method
def get (e : Ev) (i : Nat) : Option D := (e[i]?).bind id
def R.ofO {α : Type} : Option α → Ev → R α
  | some a, e => .ok a e
  | none, _ => .bad
/-- names are read when the operation is done -/
def late : List E → List D → Ev → Option (List D)
  | [], [], _ => some []
  | .v i :: es, _ :: ds, e => (get e i).bind fun d => (late es ds e).map (d :: ·)
  | _ :: es, d :: ds, e => (late es ds e).map (d :: ·)
  | _, _, _ => none
/-- the trees written by a call go back to the slots they came from -/
def back : List Bool → List E → Ev → Ev → Ev
  | true :: io, .v i :: es, o :: outs, e => back io es outs (e.set i o)
  | _ :: io, _ :: es, _ :: outs, e => back io es outs e
  | _, _, _, e => e
/-- .. and are lost where it raised -/
def lost : List Bool → List E → Ev → Ev
  | true :: io, .v i :: es, e => lost io es (e.set i none)
  | _ :: io, _ :: es, e => lost io es e
  | _, _, e => e
def fin (io : List Bool) (es : List E) (e : Ev) : C → R D
  | .ok d outs => .ok d (back io es outs e)
  | .err x => .err x (lost io es e)
  | .bad => .bad
def wipeE (e : Ev) : List Nat → Ev
  | [] => e
  | v :: vs => (wipeE e vs).set v none
/-- own slots as they stood ahead, all others as they stand -/
def backE (e0 e : Ev) : List Nat → Ev
  | [] => e
  | v :: vs => (backE e0 e vs).set v ((e0[v]?).bind id)
def setTs : List Nat → List D → Ev → Option Ev
  | [], [], e => some e
  | i :: is, d :: ds, e => setTs is ds (e.set i (some d))
  | _, _, _ => none
def setT : Tg → D → Ev → Option Ev
  | .nm i, d, e => some (e.set i (some d))
  | .tp is, .tup ds, e => setTs is ds e
  | _, _, _ => none
def truth : D → Option Bool
  | .non => some false
  | .bl b => some b
  | .int i => some (i != 0)
  | .str s => if small s.length then some (!s.isEmpty) else none
  | .lst ds => some (!ds.isEmpty)
  | .tup ds => some (!ds.isEmpty)
  | .dct ks _ => some (!ks.isEmpty)
  | _ => none
/-- a slot that is written or not: its value -/
def setK (im : Nat × Bool) (d : D) (e : Ev) : Option Ev := if im.2 && !d.isM then none else some (e.set im.1 (some d))
def setKs : List (Nat × Bool) → List D → Ev → Option Ev
  | [], [], e => some e
  | i :: is, d :: ds, e => (setK i d e).bind (setKs is ds)
  | _, _, _ => none
mutual
def sameD : D → D → Bool
  | .non, .non => true
  | .bl a, .bl b => a == b
  | .int i, .int j => i == j
  | .str x, .str y => x == y
  | .tup xs, .tup ys => sameDs xs ys
  | .lst xs, .lst ys => sameDs xs ys
  | .dct ks vs, .dct ks' vs' => sameDs ks ks' && sameDs vs vs'
  | .obj C xs, .obj C' ys => C == C' && sameDs xs ys
  | .cls C, .cls C' => C == C'
  | .ty n, .ty m => n == m
  | .scr x, .scr y => x == y
  | _, _ => false
def sameDs : List D → List D → Bool
  | [], [] => true
  | x :: xs, y :: ys => sameD x y && sameDs xs ys
  | _, _ => false
end
/-- the list walked in its slot is still what it was -/
def gdI : It → List D → Ev → Bool
  | .slot i, xs, e => match get e i with
    | some (.lst ds) => sameDs ds xs
    | _ => false
  | _, _, _ => true
/-- one item after another -/
def lcL (gd : Ev → Bool) (own : List Nat) (tg : Tg) (test : Ev → R Bool) (elt : Ev → R D) : List D → Ev → List D → R (List D)
  | [], e, acc => if gd e then .ok acc e else .bad
  | x :: xs, e, acc => if gd e then match setT tg x e with
    | none => .bad
    | some e1 => (test e1).bind fun b e2 => if b then (elt e2).bind fun d e3 => if small acc.length then lcL gd own tg test elt xs (wipeE e3 own) (acc ++ [d]) else .bad else lcL gd own tg test elt xs (wipeE e2 own) acc
    else .bad
def rngD (a b : Int) : Option (List D) := if decide (-1000000 ≤ a) && decide (a ≤ 1000000) && decide (-1000000 ≤ b) && decide (b ≤ 1000000) then some ((List.range (b - a).toNat).map fun k => .int (a + (k : Nat))) else none
def enumF : Nat → List D → List D
  | _, [] => []
  | k, d :: ds => .tup [.int (k : Nat), d] :: enumF (k + 1) ds
def enumD : D → Option (List D)
  | .lst ds => some (enumF 0 ds)
  | _ => none
def zipF : List D → List D → List D
  | x :: xs, y :: ys => .tup [x, y] :: zipF xs ys
  | _, _ => []
def zipD : D → D → Option (List D)
  | .lst xs, .lst ys => some (zipF xs ys)
  | .tup xs, .tup ys => some (zipF xs ys)
  | _, _ => none
/-- which def is called, with what -/
def ownF (dun sta : Nat → Str → Option Nat) : Ow → List D → Option (Nat × List D)
  | .add, [.obj C fs, .obj C' gs] => if C = C' then (dun C "__add__").map fun f => (f, [.obj C fs, .obj C' gs]) else none
  | .add, [.obj C fs, .int i] => (dun C "__radd__").bind fun _ => (dun C "__add__").map fun f => (f, [.obj C fs, .int i])
  | .add, [.int i, .obj C fs] => (dun C "__add__").bind fun _ => (dun C "__radd__").map fun f => (f, [.obj C fs, .int i])
  | .mul, [.obj C fs, .obj C' gs] => if C = C' then (dun C "__mul__").map fun f => (f, [.obj C fs, .obj C' gs]) else none
  | .mul, [.obj C fs, .int i] => (dun C "__rmul__").bind fun _ => (dun C "__mul__").map fun f => (f, [.obj C fs, .int i])
  | .mul, [.int i, .obj C fs] => (dun C "__mul__").bind fun _ => (dun C "__rmul__").map fun f => (f, [.obj C fs, .int i])
  | .eq, [.obj C fs, .obj C' gs] => if C = C' then (dun C "__eq__").map fun f => (f, [.obj C fs, .obj C' gs]) else none
  | .ne, [.obj C fs, .obj C' gs] => if C = C' then (dun C "__eq__").map fun f => (f, [.obj C fs, .obj C' gs]) else none
  | .str, [.obj C fs] => (dun C "__str__").map fun f => (f, [.obj C fs])
  | .stat C m, ds => if small ds.length then (sta C m).map fun f => (f, [.tup ds]) else none
  | _, _ => none
/-- what becomes of what it gives -/
def ownV : Ow → D → Option D
  | .add, d => some d
  | .mul, d => some d
  | .stat _ _, d => some d
  | .eq, .bl b => some (.bl b)
  | .ne, .bl b => some (.bl (!b))
  | .str, .str s => some (.str s)
  | _, _ => none
def Pr.eqs (p : Pr) : List D → List D → Bool
  | [], [] => true
  | .obj C fs :: xs, .obj C' gs :: ys => C == C' && (match p.dun C "__eq__" with
    | some f => (match p.call f [.obj C fs, .obj C' gs] with
      | .ok (.bl true) _ => true
      | _ => false)
    | none => false) && p.eqs xs ys
  | _, _ => false
def Pr.ownC (p : Pr) (w : Ow) (ds : List D) : Option D := (ownF p.dun p.sta w ds).bind fun fa => match p.call fa.1 fa.2 with
  | .ok d _ => ownV w d
  | _ => none
def Pr.ownD (p : Pr) : Ow → List D → Option D
  | .eqL, [.lst xs, .lst ys] => if p.eqs xs ys then some (.bl true) else none
  | .eqL, _ => none
  | w, ds => p.ownC w ds
mutual
def evE (p : Pr) : E → Ev → R D
  | .bad, _ => .bad
  | .v i, e => .ofO (get e i) e
  | .k d, e => .ok d e
  | .op o es, e => (evEs p es e).bind fun ds e1 => match late es ds e1 with
    | some ds => .ofO (pD o ds) e1
    | none => .bad
  | .and_ a b, e => (evE p a e).bind fun d e1 => match d with
    | .bl true => evE p b e1
    | .bl false => .ok (.bl false) e1
    | _ => .bad
  | .or_ a b, e => (evE p a e).bind fun d e1 => match d with
    | .bl false => evE p b e1
    | .bl true => .ok (.bl true) e1
    | _ => .bad
  | .not_ a, e => (evE p a e).bind fun d e1 => match d with
    | .bl c => .ok (.bl (!c)) e1
    | _ => .bad
  | .ite c a b, e => (evT p c e).bind fun d e1 => if d then evE p a e1 else evE p b e1
  | .chain o q a b c, e => (evE p a e).bind fun x e1 => (evE p b e1).bind fun y e2 => match pD o [x, y] with
    | some (.bl true) => (evE p c e2).bind fun z e3 => .ofO (pD q [y, z]) e3
    | some (.bl false) => .ok (.bl false) e2
    | _ => .bad
  | .call f es dfl, e => (evEs p es e).bind fun ds e1 => match late es ds e1 with
    | some ds => fin (p.fi f).io es e1 (p.call f (ds ++ dfl))
    | none => .bad
  | .meth m a es dfl, e => (evE p a e).bind fun o e1 => (evEs p es e1).bind fun ds e2 => match o with
    | .obj C fs => match late es ds e2 with
      | some ds => fin (p.fi (p.meth C m)).io (a :: es) e2 (p.call (p.meth C m) (.obj C fs :: (ds ++ dfl)))
      | none => .bad
    | _ => .bad
  | .mk C es dfl, e => (evEs p es e).bind fun ds e1 => match late es ds e1 with
    | some ds => match p.call (p.init C) (.obj C [] :: (ds ++ dfl)) with
      | .ok .non (some d :: outs) => .ok d (back ((p.fi (p.init C)).io.drop 1) es outs e1)
      | .err x => .err x e1
      | _ => .bad
    | none => .bad
  | .fld f a, e => (evE p a e).bind fun d e1 => match d with
    | .obj C ds => .ofO (((p.flds C).zip ds).lookup f) e1
    | _ => .bad
  | .callK s es, e => (evEs p es e).bind fun ds e1 => match late es ds e1 with
    | some ds => match pick (p.sh s).sel ds with
      | some as => fin (p.fi (p.sh s).f).io (pickE (p.sh s).sel es) e1 (p.call (p.sh s).f as)
      | none => .bad
    | none => .bad
  | .mkK s C es, e => (evEs p es e).bind fun ds e1 => match late es ds e1 with
    | some ds => match pick (p.sh s).sel ds with
      | some as => match p.call (p.sh s).f (.obj C [] :: as) with
        | .ok .non (some d :: outs) => .ok d (back ((p.fi (p.sh s).f).io.drop 1) (pickE (p.sh s).sel es) outs e1)
        | .err x => .err x e1
        | _ => .bad
      | none => .bad
    | none => .bad
  | .met m o es, e => (evE p o e).bind fun d e1 => (evEs p es e1).bind fun ds e2 => match late es ds e2 with
    | some ds => .ofO (pMt m d ds) e2
    | none => .bad
  | .sl a lo hi, e => (evE p a e).bind fun d e1 => (evO p lo e1).bind fun l e2 => (evO p hi e2).bind fun h e3 => match late [a] [d] e3 with
    | some [d'] => .ofO (pSl d' l h) e3
    | _ => .bad
  | .mv i, e => match get e i with
    | some d => .ok d (e.set i none)
    | none => .bad
  | .own w es, e => (evEs p es e).bind fun ds e1 => match late es ds e1 with
    | some ds => .ofO (p.ownD w ds) e1
    | none => .bad
  | .lc own tg it ifs elt, e => (evI p it e).bind fun xs e1 => (lcL (gdI it xs) own tg (evTs p ifs) (evE p elt) xs (wipeE e1 own) []).bind fun ds e2 => .ok (.lst ds) (backE e1 e2 own)
  | .pop i a, e => match get e i with
    | some (.lst _) => (evE p a e).bind fun d e1 => match d, get e1 i with
      | .int j, some (.lst ds) => match ixOf ds.length j with
        | some k => match ds[k]? with
          | some x => if small ds.length then .ok x (e1.set i (some (.lst (ds.eraseIdx k)))) else .bad
          | none => .bad
        | none => .bad
      | _, _ => .bad
    | _ => .bad
def evEs (p : Pr) : List E → Ev → R (List D)
  | [], e => .ok [] e
  | a :: r, e => (evE p a e).bind fun d e1 => (evEs p r e1).bind fun ds e2 => .ok (d :: ds) e2
def evO (p : Pr) : List E → Ev → R (Option Int)
  | [], e => .ok none e
  | [a], e => (evE p a e).bind fun d e1 => match d with
    | .int i => .ok (some i) e1
    | _ => .bad
  | _, _ => .bad
def evT (p : Pr) : E → Ev → R Bool
  | .and_ a b, e => (evT p a e).bind fun d e1 => if d then evT p b e1 else .ok false e1
  | .or_ a b, e => (evT p a e).bind fun d e1 => if d then .ok true e1 else evT p b e1
  | .not_ a, e => (evT p a e).bind fun d e1 => .ok (!d) e1
  | a, e => (evE p a e).bind fun d e1 => .ofO (truth d) e1
def evTs (p : Pr) : List E → Ev → R Bool
  | [], e => .ok true e
  | [a], e => evT p a e
  | _, _ => .bad
def evI (p : Pr) : It → Ev → R (List D)
  | .val a, e => (evE p a e).bind fun d e1 => .ofO (itD d) e1
  | .rng a, e => (evE p a e).bind fun d e1 => match d with
    | .int n => .ofO (rngD 0 n) e1
    | _ => .bad
  | .rng2 a b, e => (evE p a e).bind fun x e1 => (evE p b e1).bind fun y e2 => match x, y with
    | .int i, .int j => .ofO (rngD i j) e2
    | _, _ => .bad
  | .zip a b, e => (evE p a e).bind fun x e1 => (evE p b e1).bind fun y e2 => .ofO (zipD x y) e2
  | .enu a, e => (evE p a e).bind fun x e1 => .ofO (enumD x) e1
  | .slot i, e => match get e i with
    | some (.lst ds) => .ok ds e
    | _ => .bad
end
inductive Fl where
  | next | ret (d : D) | brk | cont
def forL (gd : Ev → Bool) (tg : Tg) (body : Ev → R Fl) : List D → Ev → R Fl
  | [], e => if gd e then .ok .next e else .bad
  | x :: xs, e => if gd e then match setT tg x e with
    | none => .bad
    | some e1 => (body e1).bind fun f e2 => match f with
      | .next => forL gd tg body xs e2
      | .cont => forL gd tg body xs e2
      | .brk => .ok .next e2
      | .ret d => .ok (.ret d) e2
    else .bad
def whlL (test : Ev → R Bool) (body : Ev → R Fl) : Nat → Ev → R Fl
  | 0, _ => .bad
  | n + 1, e => (test e).bind fun b e1 => if b then (body e1).bind fun f e2 => match f with
      | .next => whlL test body n e2
      | .cont => whlL test body n e2
      | .brk => .ok .next e2
      | .ret d => .ok (.ret d) e2
    else .ok .next e1
mutual
def exS (p : Pr) (K : Nat) : S → Ev → R Fl
  | .bad, _ => .bad
  | .pass, e => .ok .next e
  | .expr a, e => (evE p a e).bind fun _ e1 => .ok .next e1
  | .set i m a, e => (evE p a e).bind fun d e1 => match setK (i, m) d e1 with
    | some e2 => .ok .next e2
    | none => .bad
  | .par is es, e => (evEs p es e).bind fun ds e1 => match setKs is ds e1 with
    | some e2 => .ok .next e2
    | none => .bad
  | .unp is a, e => (evE p a e).bind fun d e1 => match setT (.tp is) d e1 with
    | some e2 => .ok .next e2
    | none => .bad
  | .aug o i a, e => match get e i with
    | some (.int x) => (evE p a e).bind fun d e1 => match d with
      | .int y => match o with
        | .add => .ok .next (e1.set i (some (.int (x + y))))
        | .sub => .ok .next (e1.set i (some (.int (x - y))))
        | _ => .bad
      | _ => .bad
    | _ => .bad
  | .seti i j a, e => (evE p a e).bind fun d e1 => match get e1 i with
    | some (.lst _) => (evE p j e1).bind fun x e2 => match x, get e2 i with
      | .int n, some (.lst ds) => match ixOf ds.length n with
        | some k => .ok .next (e2.set i (some (.lst (ds.set k d))))
        | none => .bad
      | _, _ => .bad
    | _ => .bad
  | .setf i f a, e => (evE p a e).bind fun d e1 => match get e1 i with
    | some (.obj C ds) => if (p.flds C)[ds.length]? = some f ∧ ((p.flds C).take ds.length).contains f = false ∧ ds.length < 900 then .ok .next (e1.set i (some (.obj C (ds ++ [d])))) else .bad
    | _ => .bad
  | .app i a, e => match get e i with
    | some (.lst _) => (evE p a e).bind fun d e1 => match get e1 i with
      | some (.lst ds) => if small ds.length then .ok .next (e1.set i (some (.lst (ds ++ [d])))) else .bad
      | _ => .bad
    | _ => .bad
  | .if_ c a b, e => (evT p c e).bind fun d e1 => if d then exSs p K a e1 else exSs p K b e1
  | .whl c b, e => whlL (evT p c) (exSs p K b) K e
  | .for_ tg it b, e => (evI p it e).bind fun xs e1 => forL (gdI it xs) tg (exSs p K b) xs e1
  | .ret a, e => (evE p a e).bind fun d e1 => .ok (.ret d) e1
  | .brk, e => .ok .brk e
  | .cont, e => .ok .cont e
def exSs (p : Pr) (K : Nat) : List S → Ev → R Fl
  | [], e => .ok .next e
  | s :: r, e => (exS p K s e).bind fun f e1 => match f with
    | .next => exSs p K r e1
    | f => .ok f e1
end
/-- the written parameters' trees, as they stand at a def's end -/
def outsOf : List Bool → Ev → Ev
  | b :: io, e => (if b then e.headD none else none) :: outsOf io e.tail
  | [], _ => []
/-- a def -/
structure Df where
  fi : Fi
  more : List Kd
  body : List S
structure Pg where
  sh : List Sh
  defs : List Df
  init : List Nat
  flds : List (List Str)
  meths : List (List (Str × Nat))
  stats : List (List (Str × Nat))
def Pg.fiOf (g : Pg) (f : Nat) : Fi := match g.defs[f]? with | some d => d.fi | none => ⟨[], false⟩
def endOf (io : List Bool) : R Fl → C
  | .ok (.ret d) e => .ok d (outsOf io e)
  | .ok .next e => .ok .non (outsOf io e)
  | .err x _ => .err x
  | _ => .bad
def Pg.prOf (g : Pg) (c : Nat → List D → C) : Pr := ⟨fun s => g.sh.getD s ⟨0, 0, [], []⟩, g.fiOf, c, fun C => g.init.getD C 0, fun C => g.flds.getD C [], fun C m => ((g.meths.getD C []).lookup m).getD 0, fun C m => (g.meths.getD C []).lookup m, fun C m => (g.stats.getD C []).lookup m⟩
def Pg.callN (g : Pg) (K : Nat) : Nat → Nat → List D → C
  | 0, _, _ => .bad
  | n + 1, f, ds => match g.defs[f]? with
    | none => .bad
    | some d => if ds.length = d.fi.kd.length then endOf d.fi.io (exSs (g.prOf (g.callN K n)) K d.body (ds.map some ++ List.replicate d.more.length none)) else .bad
end TE
/-! Te3: frames of trees over a frame of values; what a reading says of an evaluation. -/
namespace TE
open PySem L2
/-- the addresses of the slots that are written in place -/
def Ms (mk : Nat → Kd) (σ : L2.St) (e : Ev) (p : Addr) : Prop := ∃ i d, mk i = .m ∧ get e i = some d ∧ σ[i]? = some (some (.ref p))
structure REnv (g : G) (mk : Nat → Kd) (F : Addr → Prop) (H : Hp) (σ : L2.St) (e : Ev) : Prop where
  fd : ∀ a, F a → ∃ o, H a = some o
  n : ∀ i d, mk i = .n → get e i = some d → ∃ v, σ[i]? = some (some v) ∧ Rep g F H v d
  m : ∀ i d, mk i = .m → get e i = some d → ∃ p, σ[i]? = some (some (.ref p)) ∧ ¬ F p ∧ Root g F H p d
  b : ∀ i d, mk i = .b → get e i = some d → ∃ v, σ[i]? = some (some v) ∧ (Rep g F H v d ∨ ∃ p, v = .ref p ∧ ¬ Ms mk σ e p ∧ Root g F H p d)
  ne : ∀ i j d d' p, mk i = .m → mk j = .m → i ≠ j → get e i = some d → get e j = some d' → σ[i]? = some (some (.ref p)) → σ[j]? ≠ some (some (.ref p))
  len : e.length ≤ σ.length
/-- slots that are written or lent and stand behind stood ahead -/
def Sub (mk : Nat → Kd) (e e' : Ev) : Prop := ∀ i d', mk i ≠ .n → get e' i = some d' → ∃ d, get e i = some d ∧ (mk i = .b → d = d')
structure Aft (g : G) (mk : Nat → Kd) (F : Addr → Prop) (H : Hp) (σ : L2.St) (e : Ev) (F' : Addr → Prop) (H' : Hp) (e' : Ev) : Prop where
  st : Stp (Ms mk σ e) F H F' H'
  en : REnv g mk F' H' σ e'
  sub : Sub mk e e'
section
variable {g : G} {mk : Nat → Kd} {M M' F F' F'' : Addr → Prop} {H H' H'' : Hp} {σ : L2.St} {e e' e'' : Ev}
theorem root_mut {p : Addr} {d : D} (r : Root g F H p d) : ∃ o, H p = some o ∧ mutO o := by
  cases d <;> first
    | (obtain ⟨vs, h, _⟩ := r; exact ⟨_, h, trivial⟩)
    | (obtain ⟨dx, vs, h, _⟩ := r; exact ⟨_, h, trivial⟩)
    | exact r.elim
theorem root_isM {p : Addr} {d : D} (r : Root g F H p d) : d.isM = true := by
  cases d <;> first
    | rfl
    | exact r.elim
theorem REnv.mok (r : REnv g mk F H σ e) : MOk (Ms mk σ e) F H := by
  rintro a ⟨i, d, hm, hg, hs⟩
  obtain ⟨p, hp, nf, ro⟩ := r.m i d hm hg
  rw [hs] at hp
  cases hp
  exact ⟨nf, root_mut ro⟩
theorem Ms.sub (s : Sub mk e e') {p : Addr} (h : Ms mk σ e' p) : Ms mk σ e p := by
  obtain ⟨i, d, hm, hg, hs⟩ := h
  obtain ⟨d0, h0, _⟩ := s i d (by rw [hm]; decide) hg
  exact ⟨i, d0, hm, h0, hs⟩
theorem Sub.refl : Sub mk e e := fun _ d _ h => ⟨d, h, fun _ => rfl⟩
theorem Sub.trans (a : Sub mk e e') (b : Sub mk e' e'') : Sub mk e e'' := fun i d hm h => by
  obtain ⟨d', h', e1⟩ := b i d hm h
  obtain ⟨d2, h2, e2⟩ := a i d' hm h'
  exact ⟨d2, h2, fun hb => (e2 hb).trans (e1 hb)⟩
theorem Stp.refl (fd : ∀ a, F a → ∃ o, H a = some o) : Stp M F H F H := ⟨fun _ h => h, fun _ h => .inl h, fun _ _ h _ => h, fun _ o h => ⟨o, h⟩, fd⟩
theorem Stp.weak (s : Stp M F H F' H') (h : ∀ a, M a → M' a) : Stp M' F H F' H' := ⟨s.fm, fun a x => (s.fn a x).imp id fun y => y.imp id (h a), fun a o e n => s.kp a o e fun z => n (h a z), s.th, s.fd⟩
theorem Stp.fresh (s : Stp M F H F' H') {a : Addr} (h : H' a = none) : H a = none := by
  cases q : H a with
  | none => rfl
  | some o =>
    obtain ⟨o', e⟩ := s.th a o q
    rw [e] at h; cases h
theorem Stp.trans (s : Stp M F H F' H') (t : Stp M' F' H' F'' H'') (h : ∀ a, M' a → M a) : Stp M F H F'' H'' :=
  ⟨fun a x => t.fm a (s.fm a x), fun a x => (t.fn a x).elim (fun y => s.fn a y) (fun y => .inr (y.imp s.fresh (h a))), fun a o e n => t.kp a o (s.kp a o e n) fun z => n (h a z), fun a o e => by
    obtain ⟨o', e'⟩ := s.th a o e
    exact t.th a o' e', t.fd⟩
theorem Rep.stp (m : MOk M F H) (s : Stp M F H F' H') {v : V} {d : D} (r : Rep g F H v d) : Rep g F' H' v d := r.mono m s.fm s.kp
theorem Reps.stp (m : MOk M F H) (s : Stp M F H F' H') {v : List V} {d : List D} (r : Reps g F H v d) : Reps g F' H' v d := r.mono m s.fm s.kp
theorem Root.stp (m : MOk M F H) (s : Stp M F H F' H') {p : Addr} {d : D} (hp : ¬ M p) (r : Root g F H p d) : Root g F' H' p d := by
  cases d <;> first
    | (obtain ⟨vs, h, x⟩ := r; exact ⟨vs, s.kp _ _ h hp, x.stp m s⟩)
    | (obtain ⟨kvs, h, x, y, z⟩ := r; exact ⟨kvs, s.kp _ _ h hp, x, y, z.stp m s⟩)
    | (obtain ⟨dx, vs, h, x, y⟩ := r; exact ⟨dx, vs, s.kp _ _ h hp, x, y.stp m s⟩)
    | exact r.elim
theorem Aft.refl (r : REnv g mk F H σ e) : Aft g mk F H σ e F H e := ⟨Stp.refl r.fd, r, Sub.refl⟩
theorem Aft.trans (a : Aft g mk F H σ e F' H' e') (b : Aft g mk F' H' σ e' F'' H'' e'') : Aft g mk F H σ e F'' H'' e'' :=
  ⟨a.st.trans b.st fun _ h => h.sub a.sub, b.en, a.sub.trans b.sub⟩
/-- slots over a step that writes none of them -/
theorem REnv.stp (r : REnv g mk F H σ e) (m : MOk M F H) (s : Stp M F H F' H') (hM : ∀ p, Ms mk σ e p → ¬ M p ∧ ¬ F' p) (hB : ∀ i d p, mk i = .b → get e i = some d → σ[i]? = some (some (.ref p)) → M p → False) : REnv g mk F' H' σ e := by
  refine ⟨s.fd, fun i d hk hg => ?_, fun i d hk hg => ?_, fun i d hk hg => ?_, r.ne, r.len⟩
  · obtain ⟨v, hv, x⟩ := r.n i d hk hg
    exact ⟨v, hv, x.stp m s⟩
  · obtain ⟨p, hp, nf, x⟩ := r.m i d hk hg
    obtain ⟨h1, h2⟩ := hM p ⟨i, d, hk, hg, hp⟩
    exact ⟨p, hp, h2, x.stp m s h1⟩
  · obtain ⟨v, hv, x⟩ := r.b i d hk hg
    refine ⟨v, hv, ?_⟩
    rcases x with x | ⟨p, rfl, nm, x⟩
    · exact .inl (x.stp m s)
    · exact .inr ⟨p, rfl, nm, x.stp m s fun z => hB i d p hk hg hv z⟩
/-- a step that only adds: new objects, new addresses of F, none of them a slot's own -/
theorem REnv.add (r : REnv g mk F H σ e) (s : Stp (fun _ => False) F H F' H') : REnv g mk F' H' σ e := by
  refine r.stp (M := fun _ => False) (fun _ h => h.elim) s (fun p hp => ⟨fun z => z, fun z => ?_⟩) fun _ _ _ _ _ _ z => z
  obtain ⟨nf, o, ho, _⟩ := r.mok p hp
  rcases s.fn p z with z | z | z
  · exact nf z
  · rw [ho] at z; cases z
  · exact z
theorem Aft.add (r : REnv g mk F H σ e) (s : Stp (fun _ => False) F H F' H') : Aft g mk F H σ e F' H' e := ⟨s.weak fun _ h => h.elim, r.add s, Sub.refl⟩
/-! ### what comes: plain, or a new object of one's own -/
def RV (fr : Bool) (g : G) (H : Hp) (F' : Addr → Prop) (H' : Hp) (v : V) (d : D) : Prop :=
  if (fr && d.isM) = true then ∃ p, v = .ref p ∧ H p = none ∧ ¬ F' p ∧ Root g F' H' p d else Rep g F' H' v d
def RR (g : G) (F : Addr → Prop) (H : Hp) (v : V) (d : D) : Prop := Rep g F H v d ∨ ∃ p, v = .ref p ∧ Root g F H p d
theorem Root.rep {p : Addr} {d : D} (r : Root g F H p d) (h : F p) : Rep g F H (.ref p) d := by
  cases d <;> first
    | (obtain ⟨vs, h1, x⟩ := r; exact .lst h h1 x)
    | (obtain ⟨kvs, h1, x, y, z⟩ := r; exact .dct h h1 x y z)
    | (obtain ⟨dx, vs, h1, x, y⟩ := r; exact .obj h h1 x y)
    | exact r.elim
theorem Rep.root {v : V} {d : D} (r : Rep g F H v d) (h : d.isM = true) : ∃ p, v = .ref p ∧ F p ∧ Root g F H p d := by
  cases r with
  | lst f h1 r => exact ⟨_, rfl, f, _, h1, r⟩
  | dct f h1 e nd r => exact ⟨_, rfl, f, _, h1, e, nd, r⟩
  | obj f h1 l r => exact ⟨_, rfl, f, _, _, h1, l, r⟩
  | _ => exact Bool.noConfusion h
/-- the new object joins F -/
def fz (F : Addr → Prop) (p : Addr) : Addr → Prop := fun a => F a ∨ a = p
theorem stp_fz {p : Addr} (h : H p = none) (hp : ∃ o, H' p = some o) (s : Stp M F H F' H') : Stp M F H (fz F' p) H' :=
  ⟨fun a x => .inl (s.fm a x), fun a x => by
    rcases x with x | rfl
    · exact s.fn a x
    · exact .inr (.inl h), s.kp, s.th, fun a x => by
    rcases x with x | rfl
    · exact s.fd a x
    · exact hp⟩
theorem fz_stp {p : Addr} : ∀ a, F a → fz F p a := fun _ h => .inl h
theorem Rep.fz {p : Addr} {v : V} {d : D} (r : Rep g F H v d) : Rep g (TE.fz F p) H v d := r.mono (M := fun _ => False) (fun _ h => h.elim) fz_stp fun _ _ h _ => h
theorem Reps.fz {p : Addr} {v : List V} {d : List D} (r : Reps g F H v d) : Reps g (TE.fz F p) H v d := r.mono (M := fun _ => False) (fun _ h => h.elim) fz_stp fun _ _ h _ => h
theorem Root.fz {p q : Addr} {d : D} (r : Root g F H q d) : Root g (TE.fz F p) H q d := by
  cases d <;> first
    | (obtain ⟨vs, h, x⟩ := r; exact ⟨vs, h, x.fz⟩)
    | (obtain ⟨kvs, h, x, y, z⟩ := r; exact ⟨kvs, h, x, y, z.fz⟩)
    | (obtain ⟨dx, vs, h, x, y⟩ := r; exact ⟨dx, vs, h, x, y.fz⟩)
    | exact r.elim
theorem REnv.fz {p : Addr} (r : REnv g mk F H σ e) (hp : ∃ o, H p = some o) (h : ¬ Ms mk σ e p) : REnv g mk (TE.fz F p) H σ e := by
  refine ⟨fun a x => by
    rcases x with x | rfl
    · exact r.fd a x
    · exact hp, fun i d hk hg => ?_, fun i d hk hg => ?_, fun i d hk hg => ?_, r.ne, r.len⟩
  · obtain ⟨v, hv, x⟩ := r.n i d hk hg
    exact ⟨v, hv, x.fz⟩
  · obtain ⟨q, hq, nf, x⟩ := r.m i d hk hg
    refine ⟨q, hq, fun z => ?_, x.fz⟩
    rcases z with z | rfl
    · exact nf z
    · exact h ⟨i, d, hk, hg, hq⟩
  · obtain ⟨v, hv, x⟩ := r.b i d hk hg
    refine ⟨v, hv, ?_⟩
    rcases x with x | ⟨q, rfl, nm, x⟩
    · exact .inl x.fz
    · exact .inr ⟨q, rfl, nm, x.fz⟩
/-- whatever comes may be taken as plain -/
theorem Aft.plain {fr : Bool} {v : V} {d : D} (r : REnv g mk F H σ e) (a : Aft g mk F H σ e F' H' e') (x : RV fr g H F' H' v d) : ∃ F'', Aft g mk F H σ e F'' H' e' ∧ Rep g F'' H' v d := by
  unfold RV at x
  split at x
  · obtain ⟨p, rfl, hn, nf, ro⟩ := x
    have hp : ∃ o, H' p = some o := by
      obtain ⟨o, ho, _⟩ := root_mut ro
      exact ⟨o, ho⟩
    refine ⟨TE.fz F' p, ⟨stp_fz hn hp a.st, a.en.fz hp fun z => ?_, a.sub⟩, (Root.fz ro).rep (.inr rfl)⟩
    obtain ⟨_, o, ho, _⟩ := r.mok p (z.sub a.sub)
    rw [hn] at ho; cases ho
  · exact ⟨F', a, x⟩
end
/-! ### what a reading says of an evaluation -/
def GoodE (fr : Bool) (g : G) (mk : Nat → Kd) (F : Addr → Prop) (H : Hp) (σ : L2.St) (e : Ev) (Q : VK) : R D → Prop
  | .ok d e' => ∀ F' H' v, Aft g mk F H σ e F' H' e' → RV fr g H F' H' v d → Q v H'
  | _ => False
def rdE (fr : Bool) (g : G) (mk : Nat → Kd) (r : Ev → R D) : TE := fun σ H Q => ∃ F e, REnv g mk F H σ e ∧ GoodE fr g mk F H σ e Q (r e)
def GoodT (g : G) (mk : Nat → Kd) (F : Addr → Prop) (H : Hp) (σ : L2.St) (e : Ev) (Q : Bool → Hp → Prop) : R Bool → Prop
  | .ok d e' => ∀ F' H', Aft g mk F H σ e F' H' e' → Q d H'
  | _ => False
def rdT (g : G) (mk : Nat → Kd) (r : Ev → R Bool) : TT := fun σ H Q => ∃ F e, REnv g mk F H σ e ∧ GoodT g mk F H σ e Q (r e)
section
variable {g : G} {mk : Nat → Kd} {F F' : Addr → Prop} {H H' : Hp} {σ : L2.St} {e e' : Ev}
/-- an expression as a part: plain -/
theorem use {fr : Bool} {r : Ev → R D} {Q : VK} (en : REnv g mk F H σ e) (h : ∃ d e1, r e = .ok d e1 ∧ ∀ F1 H1 v, Aft g mk F H σ e F1 H1 e1 → Rep g F1 H1 v d → Q v H1) : rdE fr g mk r σ H Q := by
  obtain ⟨d, e1, hr, k⟩ := h
  refine ⟨F, e, en, ?_⟩
  rw [hr]
  intro F' H' v a x
  obtain ⟨F'', a', x'⟩ := a.plain en x
  exact k F'' H' v a' x'
end
end TE
/-! Te4: operations over trees are the operations over values. -/
namespace TE
open PySem L2
def FD (F : Addr → Prop) (H : Hp) : Prop := ∀ a, F a → ∃ o, H a = some o
def PostV (fr : Bool) (g : G) (F : Addr → Prop) (H : Hp) (d : D) (Q : VK) : Prop := ∀ F' H' v, Stp (fun _ => False) F H F' H' → RV fr g H F' H' v d → Q v H'
section
variable {g : G} {F F' : Addr → Prop} {H H' : Hp} {v x y : V} {d : D} {ds : List D} {vs : List V} {Q : VK} {fr : Bool}
theorem post_now (fd : FD F H) (q : PostV fr g F H d Q) (r : Rep g F H v d) (h : (fr && d.isM) = false) : Q v H :=
  q F H v (Stp.refl fd) (by unfold RV; rw [if_neg (by rw [h]; decide)]; exact r)
theorem stp_new {p : Addr} {o : HO} (fd : FD F H) (h : H p = none) : Stp (fun _ => False) F H F (upd H p o) :=
  ⟨fun _ x => x, fun _ x => .inl x, fun a u e _ => by rw [upd_ne (ne_of_none e h)]; exact e, fun a u e => ⟨u, by rw [upd_ne (ne_of_none e h)]; exact e⟩, fun a x => by
    obtain ⟨u, e⟩ := fd a x
    exact ⟨u, by rw [upd_ne (ne_of_none e h)]; exact e⟩⟩
theorem nfd (fd : FD F H) {p : Addr} (h : H p = none) : ¬ F p := fun z => by
  obtain ⟨o, e⟩ := fd p z
  rw [h] at e; cases e
theorem mok0 : MOk (fun _ => False) F H := fun _ h => h.elim
theorem post_lst (fd : FD F H) (q : PostV true g F H (.lst ds) Q) {p : Addr} (h : H p = none) (r : Reps g F H vs ds) : Q (.ref p) (upd H p (.lst vs)) :=
  q F _ _ (stp_new fd h) (by unfold RV; rw [if_pos (show (true && (D.lst ds).isM) = true from rfl)]; exact ⟨p, rfl, h, nfd fd h, vs, upd_same, r.stp mok0 (stp_new fd h)⟩)
theorem post_tup (fd : FD F H) (q : PostV fr g F H (.tup ds) Q) {p : Addr} (h : H p = none) (r : Reps g F H vs ds) : Q (.ref p) (upd H p (.tup vs)) :=
  q F _ _ (stp_new fd h) (by
    unfold RV
    rw [if_neg (by cases fr <;> simp [D.isM])]
    exact .tup (.inl (.inl upd_same)) (r.stp mok0 (stp_new fd h)))
theorem RR.int {i : Int} (r : RR g F H x (.int i)) : x = .int i := by
  rcases r with r | ⟨p, _, r⟩
  · cases r; rfl
  · exact r.elim
theorem RR.bl {i : Bool} (r : RR g F H x (.bl i)) : x = .bl i := by
  rcases r with r | ⟨p, _, r⟩
  · cases r; rfl
  · exact r.elim
theorem RR.non (r : RR g F H x .non) : x = .non := by
  rcases r with r | ⟨p, _, r⟩
  · cases r; rfl
  · exact r.elim
theorem RR.str {s : List Nat} (r : RR g F H x (.str s)) : x = .str (tx s) := by
  rcases r with r | ⟨p, _, r⟩
  · cases r; rfl
  · exact r.elim
theorem RR.lst (r : RR g F H x (.lst ds)) : ∃ a vs, x = .ref a ∧ H a = some (.lst vs) ∧ Reps g F H vs ds := by
  rcases r with r | ⟨p, rfl, vs, h, r⟩
  · cases r with
    | lst f h r => exact ⟨_, _, rfl, h, r⟩
  · exact ⟨p, vs, rfl, h, r⟩
theorem RR.tup (r : RR g F H x (.tup ds)) : ∃ a vs, x = .ref a ∧ SqT g.K H a vs ∧ Reps g F H vs ds := by
  rcases r with r | ⟨p, _, r⟩
  · cases r with
    | tup h r => exact ⟨_, _, rfl, h, r⟩
  · exact r.elim
theorem RR.dct {ks ws : List D} (r : RR g F H x (.dct ks ws)) : ∃ a kvs, x = .ref a ∧ H a = some (.dK kvs) ∧ ks = kvs.map (fun p => kD p.1) ∧ (kvs.map (·.1)).Nodup ∧ Reps g F H (kvs.map (·.2)) ws := by
  rcases r with r | ⟨p, rfl, kvs, h⟩
  · cases r with
    | dct f h e nd r => exact ⟨_, _, rfl, h, e, nd, r⟩
  · exact ⟨p, kvs, rfl, h⟩
theorem RR.scr {ns : List Int} (r : RR g F H x (.scr ns)) : ∃ a, x = .ref a ∧ SqF g.K H a (ns.map V.int) := by
  rcases r with r | ⟨p, _, r⟩
  · cases r with
    | scr h => exact ⟨_, rfl, h⟩
  · exact r.elim
theorem Reps.length : ∀ {vs : List V} {ds : List D}, Reps g F H vs ds → vs.length = ds.length
  | _, _, .nil => rfl
  | _, _, .cons _ r => congrArg (· + 1) (Reps.length r)
theorem Reps.app : ∀ {vs ws : List V} {ds es : List D}, Reps g F H vs ds → Reps g F H ws es → Reps g F H (vs ++ ws) (ds ++ es)
  | _, _, _, _, .nil, s => s
  | _, _, _, _, .cons r t, s => .cons r (Reps.app t s)
theorem Reps.get : ∀ {vs : List V} {ds : List D} {i : Nat} {d : D}, Reps g F H vs ds → ds[i]? = some d → ∃ v, vs[i]? = some v ∧ Rep g F H v d
  | _, _, _, _, .nil, e => by simp at e
  | _, _, 0, _, .cons r _, e => by
    simp only [List.getElem?_cons_zero, Option.some.injEq] at e
    subst e
    exact ⟨_, rfl, r⟩
  | _, _, i + 1, _, .cons _ t, e => by
    simp only [List.getElem?_cons_succ] at e ⊢
    exact Reps.get t e
theorem Reps.get' : ∀ {vs : List V} {ds : List D} {i : Nat} {v : V}, Reps g F H vs ds → vs[i]? = some v → ∃ d, ds[i]? = some d ∧ Rep g F H v d
  | _, _, _, _, .nil, e => by simp at e
  | _, _, 0, _, .cons r _, e => by
    simp only [List.getElem?_cons_zero, Option.some.injEq] at e
    subst e
    exact ⟨_, rfl, r⟩
  | _, _, i + 1, _, .cons _ t, e => by
    simp only [List.getElem?_cons_succ] at e ⊢
    exact Reps.get' t e
theorem Reps.take : ∀ {vs : List V} {ds : List D} (n : Nat), Reps g F H vs ds → Reps g F H (vs.take n) (ds.take n)
  | _, _, 0, _ => .nil
  | _, _, _ + 1, .nil => .nil
  | _, _, n + 1, .cons r t => .cons r (Reps.take n t)
theorem Reps.drop : ∀ {vs : List V} {ds : List D} (n : Nat), Reps g F H vs ds → Reps g F H (vs.drop n) (ds.drop n)
  | _, _, 0, r => r
  | _, _, _ + 1, .nil => .nil
  | _, _, n + 1, .cons _ t => Reps.drop n t
theorem Reps.rep (n : Nat) (r : Reps g F H vs ds) : Reps g F H (List.replicate n vs).flatten (List.replicate n ds).flatten := by
  induction n with
  | zero => exact .nil
  | succ n ih =>
    rw [List.replicate_succ, List.replicate_succ, List.flatten_cons, List.flatten_cons]
    exact r.app ih
theorem Reps.eraseIdx : ∀ {vs : List V} {ds : List D} (k : Nat), Reps g F H vs ds → Reps g F H (vs.eraseIdx k) (ds.eraseIdx k)
  | _, _, _, .nil => .nil
  | _, _, 0, .cons _ t => t
  | _, _, k + 1, .cons r t => .cons r (Reps.eraseIdx k t)
theorem Reps.set : ∀ {vs : List V} {ds : List D} (k : Nat) {v : V} {d : D}, Rep g F H v d → Reps g F H vs ds → Reps g F H (vs.set k v) (ds.set k d)
  | _, _, _, _, _, _, .nil => .nil
  | _, _, 0, _, _, q, .cons _ t => .cons q t
  | _, _, k + 1, _, _, q, .cons r t => .cons r (Reps.set k q t)
theorem Reps.ints : ∀ (ns : List Int), Reps g F H (ns.map V.int) (ns.map D.int)
  | [] => .nil
  | n :: ns => .cons (.int n) (Reps.ints ns)
theorem Reps.strs : ∀ (ns : List (List Nat)), Reps g F H (ns.map fun s => V.str (tx s)) (ns.map D.str)
  | [] => .nil
  | n :: ns => .cons (.str n) (Reps.strs ns)
theorem Reps.allInt : ∀ {vs : List V} {ds : List D} {ns : List Int}, Reps g F H vs ds → TE.allInt ds = some ns → vs = ns.map V.int
  | _, _, _, .nil, e => by cases e; rfl
  | _, _, _, .cons r t, e => by
    cases r <;> first
      | (unfold TE.allInt at e
         cases h : TE.allInt _ with
         | none => rw [h] at e; cases e
         | some ms =>
           rw [h] at e; cases e
           rw [Reps.allInt t h]; rfl)
      | (cases e)
theorem Reps.allBl : ∀ {vs : List V} {ds : List D} {ns : List Bool}, Reps g F H vs ds → TE.allBl ds = some ns → vs = ns.map V.bl
  | _, _, _, .nil, e => by cases e; rfl
  | _, _, _, .cons r t, e => by
    cases r <;> first
      | (unfold TE.allBl at e
         cases h : TE.allBl _ with
         | none => rw [h] at e; cases e
         | some ms =>
           rw [h] at e; cases e
           rw [Reps.allBl t h]; rfl)
      | (cases e)
theorem Reps.allStr : ∀ {vs : List V} {ds : List D} {ns : List (List Nat)}, Reps g F H vs ds → TE.allStr ds = some ns → vs = ns.map fun s => V.str (tx s)
  | _, _, _, .nil, e => by cases e; rfl
  | _, _, _, .cons r t, e => by
    cases r <;> first
      | (unfold TE.allStr at e
         cases h : TE.allStr _ with
         | none => rw [h] at e; cases e
         | some ms =>
           rw [h] at e; cases e
           rw [Reps.allStr t h]; rfl)
      | (cases e)
/-! ### texts -/
theorem tx_len (s : List Nat) : (tx s).length = s.length := by simp [tx, Str.length]
theorem tx_cps (s : List Nat) : (tx s).cps.toList = s := by simp [tx]
theorem tx_inj {a b : List Nat} : tx a = tx b ↔ a = b := ⟨fun h => by
  have := congrArg (fun z : Str => z.cps.toList) h
  simpa [tx] using this, fun h => by rw [h]⟩
theorem tx_of (s : Str) : tx s.cps.toList = s := by
  cases s; simp [tx]
theorem tx_app (a b : List Nat) : tx a ++ tx b = tx (a ++ b) := by
  show Str.append _ _ = _
  simp [tx, Str.append]
end
end TE
/-! Te5: the two-place operations. -/
namespace TE
open PySem L2
/-! ### plain data as the library's -/
mutual
def toP : D → PyData
  | .bl b => .bool b
  | .int i => .int i
  | .str s => .str (tx s)
  | .lst ds => .list (toPs ds)
  | .tup ds => .tuple (toPs ds)
  | _ => .none
def toPs : List D → List PyData
  | [] => []
  | d :: ds => toP d :: toPs ds
end
section
variable {g : G} {F : Addr → Prop} {H : Hp} {K : PySem.W.Frag}
mutual
theorem dp_of (hK : g.K = K) : ∀ {n : Nat} {v : V} {d : D}, Rep g F H v d → dat n d = true → Dp K H v (toP d)
  | n, _, _, .non, _ => by unfold toP; exact .non
  | n, _, _, .bl b, _ => by unfold toP; exact .bl b
  | n, _, _, .int i, _ => by unfold toP; exact .int i
  | n, _, _, .str s, _ => by unfold toP; exact .str _
  | 0, _, _, .tup h r, e => by simp [dat] at e
  | n + 1, _, _, .tup h r, e => by
    unfold toP
    exact .tup (hK ▸ h) (dps_of hK r (by simpa [dat] using e))
  | 0, _, _, .lst f h r, e => by simp [dat] at e
  | n + 1, _, _, .lst f h r, e => by
    unfold toP
    exact .lst (SqL.of h) (dps_of hK r (by simpa [dat] using e))
  | n, _, _, .dct f h e1 nd r, e => by cases n <;> simp [dat] at e
  | n, _, _, .obj f h l r, e => by cases n <;> simp [dat] at e
  | n, _, _, .cls C, e => by cases n <;> simp [dat] at e
  | n, _, _, .ty C, e => by cases n <;> simp [dat] at e
  | n, _, _, .scr C, e => by cases n <;> simp [dat] at e
theorem dps_of (hK : g.K = K) : ∀ {n : Nat} {vs : List V} {ds : List D}, Reps g F H vs ds → dats n ds = true → DpAll K H vs (toPs ds)
  | _, _, _, .nil, _ => by unfold toPs; exact .nil
  | n, _, _, .cons r t, e => by
    unfold toPs
    simp only [dats, Bool.and_eq_true] at e
    exact .cons (dp_of hK r e.1) (dps_of hK t e.2)
end
mutual
theorem lay_of : ∀ {n : Nat} {d : D}, dat n d = true → (toP d).canLay0 = true ∧ (toP d).depth ≤ n
  | n, .non, _ => by simp [toP, PyData.canLay0, PyData.depth]
  | n, .bl b, _ => by simp [toP, PyData.canLay0, PyData.depth]
  | n, .int i, _ => by simp [toP, PyData.canLay0, PyData.depth]
  | n, .str s, e => by
    have e : (s.all fun c => decide (c < 1114112)) = true := by cases n <;> simpa [dat] using e
    simp only [toP, PyData.canLay0, PyData.depth, tx, Nat.zero_le, and_true]
    show (s.toArray.all fun c => decide (c < 0x110000)) = true
    simpa using e
  | 0, .tup ds, e => by simp [dat] at e
  | 0, .lst ds, e => by simp [dat] at e
  | n + 1, .tup ds, e => by
    have h := lays_of (n := n) (ds := ds) (by simpa [dat] using e)
    simp only [toP, PyData.canLay0, PyData.depth]
    exact ⟨h.1, Nat.succ_le_succ h.2⟩
  | n + 1, .lst ds, e => by
    have h := lays_of (n := n) (ds := ds) (by simpa [dat] using e)
    simp only [toP, PyData.canLay0, PyData.depth]
    exact ⟨h.1, Nat.succ_le_succ h.2⟩
  | n, .dct ks vs, e => by cases n <;> simp [dat] at e
  | n, .obj C ds, e => by cases n <;> simp [dat] at e
  | n, .cls C, e => by cases n <;> simp [dat] at e
  | n, .ty C, e => by cases n <;> simp [dat] at e
  | n, .scr C, e => by cases n <;> simp [dat] at e
theorem lays_of : ∀ {n : Nat} {ds : List D}, dats n ds = true → PyData.canLayAll0 (toPs ds) = true ∧ PyData.depthAll (toPs ds) ≤ n
  | n, [], _ => by simp [toPs, PyData.canLayAll0, PyData.depthAll]
  | n, d :: ds, e => by
    simp only [dats, Bool.and_eq_true] at e
    have h1 := lay_of e.1
    have h2 := lays_of e.2
    simp only [toPs, PyData.canLayAll0, PyData.depthAll, Bool.and_eq_true]
    exact ⟨⟨h1.1, h2.1⟩, Nat.max_le.mpr ⟨h1.2, h2.2⟩⟩
end
theorem shaped_of {n : Nat} {d : D} (h : dat n d = true) (hn : n ≤ 64) : SeqAt.shaped (toP d) = true := by
  have := lay_of h
  unfold SeqAt.shaped
  rw [this.1, decide_eq_true (Nat.le_trans this.2 hn)]
  rfl
mutual
theorem eqv_of : ∀ {n : Nat} {d e : D}, dat n d = true → dat n e = true → PyData.eqv (toP d) (toP e) = eqD d e
  | n, d, e, h1, h2 => by
    cases d <;> first | (cases n <;> simp [dat] at h1; done) | skip
    all_goals (cases e <;> first | (cases n <;> simp [dat] at h2; done) | skip)
    all_goals simp only [toP, PyData.eqv, eqD]
    case str.str a b =>
      rw [Bool.eq_iff_iff]
      simp [tx_inj]
    all_goals
      cases n with
      | zero => simp [dat] at h1
      | succ n =>
        exact eqvs_of (n := n) (by simpa [dat] using h1) (by simpa [dat] using h2)
theorem eqvs_of : ∀ {n : Nat} {ds es : List D}, dats n ds = true → dats n es = true → PyData.eqvAll (toPs ds) (toPs es) = eqDs ds es
  | n, [], [], _, _ => by simp [toPs, PyData.eqvAll, eqDs]
  | n, [], e :: es, _, _ => by simp [toPs, PyData.eqvAll, eqDs]
  | n, d :: ds, [], _, _ => by simp [toPs, PyData.eqvAll, eqDs]
  | n, d :: ds, e :: es, h1, h2 => by
    simp only [dats, Bool.and_eq_true] at h1 h2
    simp only [toPs, PyData.eqvAll, eqDs]
    rw [eqv_of h1.1 h2.1, eqvs_of h1.2 h2.2]
end
end
end TE
/-! Te6: the operators. -/
namespace TE
open PySem L2
def rO2 (fr : Bool) (g : G) (f : D → D → Option D) : R2 := fun x y H Q => ∃ F d1 d2 d, FD F H ∧ RR g F H x d1 ∧ RR g F H y d2 ∧ f d1 d2 = some d ∧ PostV fr g F H d Q
def rO1 (fr : Bool) (g : G) (f : D → Option D) : V → Hp → VK → Prop := fun x H Q => ∃ F d1 d, FD F H ∧ RR g F H x d1 ∧ f d1 = some d ∧ PostV fr g F H d Q
section
variable {X : Cx} {g : G}
theorem small_line {n : Nat} (h : small n = true) : n ≤ sizeLine := Nat.le_trans (of_decide_eq_true h) (by decide)
theorem small_lt {n : Nat} (h : small n = true) : n < sizeLine := Nat.lt_of_le_of_lt (of_decide_eq_true h) (by decide)
theorem ite_some {c : Prop} [Decidable c] {α : Type} {a b : α} (h : (if c then some a else none) = some b) : c ∧ a = b := by
  split at h
  · exact ⟨by assumption, Option.some.inj h⟩
  · cases h
theorem o_add (hK : g.K = X.K) : OpR X (binaryOp .Add) (rO2 true g pAdd) := by
  rintro pins s σ H x y v u Q I rx ry ⟨F, d1, d2, d, fd, r1, r2, e, q⟩
  cases d1 <;> cases d2 <;> first | (simp [pAdd] at e; done) | skip
  case int.int i j =>
    simp only [pAdd, Option.some.injEq] at e
    subst e
    exact op_add pins s σ H x y v u Q I rx ry ⟨i, j, r1.int, r2.int, post_now fd q (.int _) rfl⟩
  case str.str a b =>
    obtain ⟨hz, rfl⟩ := ite_some e
    refine op_add_str pins s σ H x y v u Q I rx ry ⟨tx a, tx b, r1.str, r2.str, ?_, ?_⟩
    · rw [tx_len, tx_len]; exact small_line hz
    · rw [tx_app]; exact post_now fd q (.str _) rfl
  case lst.lst as bs =>
    obtain ⟨hz, rfl⟩ := ite_some e
    obtain ⟨a, vs, rfl, h1, p1⟩ := r1.lst
    obtain ⟨b, ws, rfl, h2, p2⟩ := r2.lst
    refine op_cat pins s σ H _ _ v u Q I rx ry ⟨a, b, vs, ws, rfl, rfl, h1, h2, ?_, fun p hp => post_lst fd q hp (p1.app p2)⟩
    rw [p1.length, p2.length]; exact small_line hz
  case tup.tup as bs =>
    obtain ⟨hz, rfl⟩ := ite_some e
    obtain ⟨a, vs, rfl, h1, p1⟩ := r1.tup
    obtain ⟨b, ws, rfl, h2, p2⟩ := r2.tup
    refine op_catA pins s σ H _ _ v u Q I rx ry ⟨a, b, vs, ws, rfl, rfl, hK ▸ h1, hK ▸ h2, ?_, fun hx => ?_, fun hx hy => ?_, fun hx hy p hp => post_tup fd q hp (p1.app p2)⟩
    · rw [p1.length, p2.length]; exact small_line hz
    · subst hx; cases p1
      exact post_now fd q (.tup h2 p2) rfl
    · subst hy; cases p2
      rw [List.append_nil] at q
      exact post_now fd q (.tup h1 p1) rfl
theorem o_sub : OpR X (binaryOp .Sub) (rO2 true g fun a b => pD .sub [a, b]) := by
  rintro pins s σ H x y v u Q I rx ry ⟨F, d1, d2, d, fd, r1, r2, e, q⟩
  cases d1 <;> cases d2 <;> first | (simp [pD] at e; done) | skip
  case int.int i j =>
    simp only [pD, Option.some.injEq] at e
    subst e
    exact op_sub pins s σ H x y v u Q I rx ry ⟨i, j, r1.int, r2.int, post_now fd q (.int _) rfl⟩
theorem o_mul : OpR X (binaryOp .Mult) (rO2 true g pMul) := by
  rintro pins s σ H x y v u Q I rx ry ⟨F, d1, d2, d, fd, r1, r2, e, q⟩
  cases d1 <;> cases d2 <;> first | (simp [pMul] at e; done) | skip
  case int.int i j =>
    obtain ⟨hz, rfl⟩ := ite_some e
    exact op_mulW pins s σ H x y v u Q I rx ry ⟨i, j, r1.int, r2.int, hz, post_now fd q (.int _) rfl⟩
  case lst.int as j =>
    obtain ⟨hz, rfl⟩ := ite_some e
    simp only [Bool.and_eq_true, decide_eq_true_eq] at hz
    obtain ⟨a, vs, rfl, h1, p1⟩ := r1.lst
    refine op_rep pins s σ H _ _ v u Q I rx ry ⟨a, j, vs, rfl, r2.int, h1, by omega, by omega, ?_, fun p hp => post_lst fd q hp (p1.rep _)⟩
    rw [p1.length]; exact small_line hz.1.1
theorem o_fdv : OpR X (binaryOp .FloorDiv) (rO2 true g fun a b => pD .fdv [a, b]) := by
  rintro pins s σ H x y v u Q I rx ry ⟨F, d1, d2, d, fd, r1, r2, e, q⟩
  cases d1 <;> cases d2 <;> first | (simp [pD] at e; done) | skip
  case int.int i j =>
    obtain ⟨hz, rfl⟩ := ite_some e
    exact op_fdivW pins s σ H x y v u Q I rx ry ⟨i, j, r1.int, r2.int, hz, post_now fd q (.int _) rfl⟩
theorem o_mod : OpR X (binaryOp .Mod) (rO2 true g fun a b => pD .mod [a, b]) := by
  rintro pins s σ H x y v u Q I rx ry ⟨F, d1, d2, d, fd, r1, r2, e, q⟩
  cases d1 <;> cases d2 <;> first | (simp [pD] at e; done) | skip
  case int.int i j =>
    obtain ⟨hz, rfl⟩ := ite_some e
    exact op_mod pins s σ H x y v u Q I rx ry ⟨i, j, r1.int, r2.int, hz, post_now fd q (.int _) rfl⟩
theorem o_pow : OpR X (binaryOp .Pow) (rO2 true g fun a b => pD .pow [a, b]) := by
  rintro pins s σ H x y v u Q I rx ry ⟨F, d1, d2, d, fd, r1, r2, e, q⟩
  cases d1 <;> cases d2 <;> first | (simp [pD] at e; done) | skip
  case int.int i j =>
    obtain ⟨⟨h1, h2, h3⟩, rfl⟩ := ite_some e
    exact op_pow pins s σ H x y v u Q I rx ry ⟨i, j, r1.int, r2.int, ⟨h1, by omega, by omega⟩, post_now fd q (.int _) rfl⟩
theorem o_neg : UnR X (unaryOp .USub) (rO1 true g fun a => pD .neg [a]) := by
  rintro pins s σ H x v Q I rx ⟨F, d1, d, fd, r1, e, q⟩
  cases d1 <;> first | (simp [pD] at e; done) | skip
  case int i =>
    simp only [pD, Option.some.injEq] at e
    subst e
    exact un_neg pins s σ H x v Q I rx ⟨i, r1.int, post_now fd q (.int _) rfl⟩
theorem RR.dp {F : Addr → Prop} {H : Hp} {n : Nat} {v : V} {d : D} (hK : g.K = X.K) (r : RR g F H v d) (h : dat n d = true) : Dp X.K H v (toP d) := by
  rcases r with r | ⟨p, rfl, r⟩
  · exact dp_of hK r h
  · cases d <;> first
      | (exact r.elim)
      | (cases n <;> simp [dat] at h; done)
      | skip
    obtain ⟨vs, h1, r⟩ := r
    cases n with
    | zero => simp [dat] at h
    | succ n =>
      unfold toP
      exact .lst (SqL.of h1) (dps_of hK r (by simpa [dat] using h))
theorem pEq_cases {a b : D} {c : Bool} (h : pEq a b = some c) : (∃ x y, a = .str x ∧ b = .str y ∧ c = (x == y)) ∨ (dat 60 a = true ∧ dat 60 b = true ∧ c = eqD a b) := by
  unfold pEq at h
  split at h
  · exact .inl ⟨_, _, rfl, rfl, (Option.some.inj h).symm⟩
  · obtain ⟨hz, e⟩ := ite_some h
    rw [Bool.and_eq_true] at hz
    exact .inr ⟨hz.1, hz.2, e.symm⟩
theorem o_eq (hK : g.K = X.K) (hu : X.A.units + 64 < cLine) : OpR X (compareOp .Eq) (rO2 true g fun a b => pD .eq [a, b]) := by
  rintro pins s σ H x y v u Q I rx ry ⟨F, d1, d2, d, fd, r1, r2, e, q⟩
  obtain ⟨c, hc, rfl⟩ := Option.map_eq_some_iff.mp (show (pEq d1 d2).map D.bl = some d from e)
  rcases pEq_cases hc with ⟨a, b, rfl, rfl, rfl⟩ | ⟨h1, h2, rfl⟩
  · refine op_eq pins s σ H x y v u Q I rx ry ⟨by rw [r1.str, r2.str]; rfl, ?_⟩
    rw [r1.str, r2.str]
    have : decide (V.str (tx a) = V.str (tx b)) = (a == b) := by
      rw [Bool.eq_iff_iff]; simp [tx_inj]
    rw [this]
    exact post_now fd q (.bl _) rfl
  · refine op_eqD hu pins s σ H x y v u Q I rx ry ⟨toP d1, toP d2, r1.dp hK h1, r2.dp hK h2, shaped_of h1 (by decide), shaped_of h2 (by decide), ?_⟩
    rw [eqv_of h1 h2]
    exact post_now fd q (.bl _) rfl
theorem o_ne (hK : g.K = X.K) (hu : X.A.units + 64 < cLine) : OpR X (compareOp .NotEq) (rO2 true g fun a b => pD .ne [a, b]) := by
  rintro pins s σ H x y v u Q I rx ry ⟨F, d1, d2, d, fd, r1, r2, e, q⟩
  obtain ⟨c', hc', rfl⟩ := Option.map_eq_some_iff.mp (show ((pEq d1 d2).map (!·)).map D.bl = some d from e)
  obtain ⟨c, hc, rfl⟩ := Option.map_eq_some_iff.mp hc'
  rcases pEq_cases hc with ⟨a, b, rfl, rfl, rfl⟩ | ⟨h1, h2, rfl⟩
  · refine op_ne pins s σ H x y v u Q I rx ry ⟨by rw [r1.str, r2.str]; rfl, ?_⟩
    rw [r1.str, r2.str]
    have : decide (V.str (tx a) = V.str (tx b)) = (a == b) := by
      rw [Bool.eq_iff_iff]; simp [tx_inj]
    rw [this]
    exact post_now fd q (.bl _) rfl
  · refine op_neD hu pins s σ H x y v u Q I rx ry ⟨toP d1, toP d2, r1.dp hK h1, r2.dp hK h2, shaped_of h1 (by decide), shaped_of h2 (by decide), ?_⟩
    rw [eqv_of h1 h2]
    exact post_now fd q (.bl _) rfl
theorem any_eqv {n : Nat} {d : D} (h : dat n d = true) : ∀ {ds : List D}, dats n ds = true → ((toPs ds).any fun z => PyData.eqv z (toP d)) = ds.any fun z => eqD z d
  | [], _ => by simp [toPs]
  | x :: ds, h2 => by
    simp only [dats, Bool.and_eq_true] at h2
    simp only [toPs, List.any_cons]
    rw [eqv_of h2.1 h, any_eqv h h2.2]
theorem o_in (hK : g.K = X.K) (hu : X.A.units + 65 < cLine) : OpR X (compareOp .In) (rO2 true g fun a b => pD .inn [a, b]) := by
  rintro pins s σ H x y v u Q I rx ry ⟨F, d1, d2, d, fd, r1, r2, e, q⟩
  obtain ⟨c, hc, rfl⟩ := Option.map_eq_some_iff.mp (show (pIn d1 d2).map D.bl = some d from e)
  cases d2 <;> first | (simp [pIn] at hc; done) | skip
  case lst ds =>
    obtain ⟨hz, rfl⟩ := ite_some hc
    rw [Bool.and_eq_true] at hz
    have hl : dat 61 (.lst ds) = true := by simpa [dat] using hz.2
    refine op_inD hu pins s σ H x y v u Q I rx ry ⟨toP d1, toPs ds, r1.dp hK hz.1, by have := r2.dp (X := X) hK hl; simpa [toP] using this, shaped_of hz.1 (by decide), by have := shaped_of hl (by decide); simpa [toP] using this, ?_⟩
    rw [any_eqv hz.1 hz.2]
    exact post_now fd q (.bl _) rfl
  case tup ds =>
    obtain ⟨hz, rfl⟩ := ite_some hc
    rw [Bool.and_eq_true] at hz
    have hl : dat 61 (.tup ds) = true := by simpa [dat] using hz.2
    obtain ⟨as, q1⟩ := Dp.reads I _ x v (r1.dp hK hz.1) rx
    obtain ⟨bs, q2⟩ := Dp.reads I _ y u (r2.dp hK hl) ry
    have sh := shaped_of hl (by decide)
    simp only [toP] at q2 sh
    refine SeqAt.in_tuple_reads q2 q1 (SeqAt.canLay_of_shaped sh) (SeqAt.canLay_of_shaped (shaped_of hz.1 (by decide))) (PyProof.Rows.room_in_shaped (shaped_of hz.1 (by decide)) hu) ⟨.bl _, H, I, rfl, ?_⟩
    rw [any_eqv hz.1 hz.2]
    exact post_now fd q (.bl _) rfl
theorem o_nin (hK : g.K = X.K) (hu : X.A.units + 65 < cLine) : OpR X (compareOp .NotIn) (rO2 true g fun a b => pD .nin [a, b]) := by
  rintro pins s σ H x y v u Q I rx ry ⟨F, d1, d2, d, fd, r1, r2, e, q⟩
  obtain ⟨c', hc', rfl⟩ := Option.map_eq_some_iff.mp (show ((pIn d1 d2).map (!·)).map D.bl = some d from e)
  obtain ⟨c, hc, rfl⟩ := Option.map_eq_some_iff.mp hc'
  cases d2 <;> first | (simp [pIn] at hc; done) | skip
  case lst ds =>
    obtain ⟨hz, rfl⟩ := ite_some hc
    rw [Bool.and_eq_true] at hz
    have hl : dat 61 (.lst ds) = true := by simpa [dat] using hz.2
    refine op_notInD hu pins s σ H x y v u Q I rx ry ⟨toP d1, toPs ds, r1.dp hK hz.1, by have := r2.dp (X := X) hK hl; simpa [toP] using this, shaped_of hz.1 (by decide), by have := shaped_of hl (by decide); simpa [toP] using this, ?_⟩
    rw [any_eqv hz.1 hz.2]
    exact post_now fd q (.bl _) rfl
  case tup ds =>
    obtain ⟨hz, rfl⟩ := ite_some hc
    rw [Bool.and_eq_true] at hz
    have hl : dat 61 (.tup ds) = true := by simpa [dat] using hz.2
    obtain ⟨as, q1⟩ := Dp.reads I _ x v (r1.dp hK hz.1) rx
    obtain ⟨bs, q2⟩ := Dp.reads I _ y u (r2.dp hK hl) ry
    have sh := shaped_of hl (by decide)
    simp only [toP] at q2 sh
    refine SeqAt.notIn_tuple_reads q2 q1 (SeqAt.canLay_of_shaped sh) (SeqAt.canLay_of_shaped (shaped_of hz.1 (by decide))) (PyProof.Rows.room_in_shaped (shaped_of hz.1 (by decide)) hu) ⟨.bl _, H, I, rfl, ?_⟩
    rw [any_eqv hz.1 hz.2]
    exact post_now fd q (.bl _) rfl
theorem ltT_lt : ∀ (a b : List Nat), ltT a b = decide (a < b)
  | [], [] => by simp [ltT]
  | [], y :: ys => by simp [ltT]
  | x :: xs, [] => by simp [ltT]
  | x :: xs, y :: ys => by
    rw [Bool.eq_iff_iff]
    simp only [ltT, Bool.or_eq_true, Bool.and_eq_true, decide_eq_true_eq, beq_iff_eq, List.cons_lt_cons_iff, ltT_lt xs ys]
theorem o_lt : OpR X (compareOp .Lt) (rO2 true g fun a b => pD .lt [a, b]) := by
  rintro pins s σ H x y v u Q I rx ry ⟨F, d1, d2, d, fd, r1, r2, e, q⟩
  obtain ⟨c, hc, rfl⟩ := Option.map_eq_some_iff.mp (show (pLt d1 d2).map D.bl = some d from e)
  cases d1 <;> cases d2 <;> first | (simp [pLt] at hc; done) | skip
  case int.int i j =>
    cases hc
    exact op_lt pins s σ H x y v u Q I rx ry ⟨i, j, r1.int, r2.int, post_now fd q (.bl _) rfl⟩
  case str.str a b =>
    cases hc
    refine op_lt_str pins s σ H x y v u Q I rx ry ⟨_, _, r1.str, r2.str, ?_⟩
    rw [tx_cps, tx_cps, ← ltT_lt]
    exact post_now fd q (.bl _) rfl
theorem o_le : OpR X (compareOp .LtE) (rO2 true g fun a b => pD .le [a, b]) := by
  rintro pins s σ H x y v u Q I rx ry ⟨F, d1, d2, d, fd, r1, r2, e, q⟩
  obtain ⟨c, hc, rfl⟩ := Option.map_eq_some_iff.mp (show (pLe d1 d2).map D.bl = some d from e)
  cases d1 <;> cases d2 <;> first | (simp [pLe] at hc; done) | skip
  case int.int i j =>
    cases hc
    exact op_le pins s σ H x y v u Q I rx ry ⟨i, j, r1.int, r2.int, post_now fd q (.bl _) rfl⟩
  case str.str a b =>
    cases hc
    refine op_le_str pins s σ H x y v u Q I rx ry ⟨_, _, r1.str, r2.str, ?_⟩
    rw [tx_cps, tx_cps, ← ltT_lt]
    exact post_now fd q (.bl _) rfl
theorem o_gt : OpR X (compareOp .Gt) (rO2 true g fun a b => pD .gt [a, b]) := by
  rintro pins s σ H x y v u Q I rx ry ⟨F, d1, d2, d, fd, r1, r2, e, q⟩
  obtain ⟨c, hc, rfl⟩ := Option.map_eq_some_iff.mp (show (pLt d2 d1).map D.bl = some d from e)
  cases d2 <;> cases d1 <;> first | (simp [pLt] at hc; done) | skip
  case int.int i j =>
    cases hc
    exact op_gt pins s σ H x y v u Q I rx ry ⟨j, i, r1.int, r2.int, post_now fd q (.bl _) rfl⟩
  case str.str a b =>
    cases hc
    refine op_gt_str pins s σ H x y v u Q I rx ry ⟨_, _, r1.str, r2.str, ?_⟩
    rw [tx_cps, tx_cps, ← ltT_lt]
    exact post_now fd q (.bl _) rfl
theorem o_ge : OpR X (compareOp .GtE) (rO2 true g fun a b => pD .ge [a, b]) := by
  rintro pins s σ H x y v u Q I rx ry ⟨F, d1, d2, d, fd, r1, r2, e, q⟩
  obtain ⟨c, hc, rfl⟩ := Option.map_eq_some_iff.mp (show (pLe d2 d1).map D.bl = some d from e)
  cases d2 <;> cases d1 <;> first | (simp [pLe] at hc; done) | skip
  case int.int i j =>
    cases hc
    exact op_ge pins s σ H x y v u Q I rx ry ⟨j, i, r1.int, r2.int, post_now fd q (.bl _) rfl⟩
  case str.str a b =>
    cases hc
    refine op_ge_str pins s σ H x y v u Q I rx ry ⟨_, _, r1.str, r2.str, ?_⟩
    rw [tx_cps, tx_cps, ← ltT_lt]
    exact post_now fd q (.bl _) rfl
end
end TE
/-! Te7: built-in functions, methods of built-in types, subscripts, slices, isinstance. -/
namespace TE
open PySem L2
inductive RRs (g : G) (F : Addr → Prop) (H : Hp) : List V → List D → Prop
  | nil : RRs g F H [] []
  | cons {v : V} {d : D} {vs : List V} {ds : List D} : RR g F H v d → RRs g F H vs ds → RRs g F H (v :: vs) (d :: ds)
def rC (fr : Bool) (g : G) (f : List D → Option D) : List V → Hp → VK → Prop := fun xs H Q => ∃ F ds d, FD F H ∧ RRs g F H xs ds ∧ f ds = some d ∧ PostV fr g F H d Q
def rM (fr : Bool) (g : G) (f : D → List D → Option D) : V → List V → Hp → VK → Prop := fun x xs H Q => ∃ F o ds d, FD F H ∧ RR g F H x o ∧ RRs g F H xs ds ∧ f o ds = some d ∧ PostV fr g F H d Q
section
variable {X : Cx} {g : G}
theorem RRs.one {F : Addr → Prop} {H : Hp} {vs : List V} {d : D} (r : RRs g F H vs [d]) : ∃ v, vs = [v] ∧ RR g F H v d := by
  cases r with
  | cons r t => cases t; exact ⟨_, rfl, r⟩
theorem RRs.two {F : Addr → Prop} {H : Hp} {vs : List V} {d e : D} (r : RRs g F H vs [d, e]) : ∃ v w, vs = [v, w] ∧ RR g F H v d ∧ RR g F H w e := by
  cases r with
  | cons r t =>
    cases t with
    | cons r' t => cases t; exact ⟨_, _, rfl, r, r'⟩
/-- by one argument -/
theorem one_of {F : Addr → Prop} {H : Hp} {vs : List V} {ds : List D} {f : List D → Option D} {d : D} (r : RRs g F H vs ds) (h : f ds = some d) (no : ∀ ds, (∀ x, ds ≠ [x]) → f ds = none) : ∃ x v, ds = [x] ∧ vs = [v] ∧ RR g F H v x := by
  by_cases hx : ∃ x, ds = [x]
  · obtain ⟨x, rfl⟩ := hx
    obtain ⟨v, rfl, q⟩ := r.one
    exact ⟨x, v, rfl, rfl, q⟩
  · rw [no ds fun x e => hx ⟨x, e⟩] at h
    cases h
theorem two_of {F : Addr → Prop} {H : Hp} {vs : List V} {ds : List D} {f : List D → Option D} {d : D} (r : RRs g F H vs ds) (h : f ds = some d) (no : ∀ ds, (∀ x y, ds ≠ [x, y]) → f ds = none) : ∃ x y v w, ds = [x, y] ∧ vs = [v, w] ∧ RR g F H v x ∧ RR g F H w y := by
  by_cases hx : ∃ x y, ds = [x, y]
  · obtain ⟨x, y, rfl⟩ := hx
    obtain ⟨v, w, rfl, q, q'⟩ := r.two
    exact ⟨x, y, v, w, rfl, rfl, q, q'⟩
  · rw [no ds fun x y e => hx ⟨x, y, e⟩] at h
    cases h
theorem kD_rep (F : Addr → Prop) (H : Hp) (k : Key) : Rep g F H (kV k) (kD k) := by
  cases k with
  | inl i => exact .int i
  | inr x =>
    have := Rep.str (g := g) (F := F) (H := H) x.cps.toList
    rw [tx_of] at this
    exact this
theorem keys_rep (F : Addr → Prop) (H : Hp) : ∀ kvs : List (Key × V), Reps g F H (kvs.map fun p => kV p.1) (kvs.map fun p => kD p.1)
  | [] => .nil
  | p :: r => .cons (kD_rep F H p.1) (keys_rep F H r)
theorem c_len (hK : g.K = X.K) : CallR X (.builtin "len") (rC true g (pBf .len)) := by
  rintro pins s σ H xs us Q I rx ⟨F, ds, d, fd, r, e, q⟩
  obtain ⟨x, v, rfl, rfl, r1⟩ := one_of r e (fun ds h => by
    rcases ds with _ | ⟨a, _ | ⟨b, t⟩⟩
    · first | rfl | (cases a <;> rfl)
    · exact absurd rfl (h a)
    · first | rfl | (cases a <;> rfl) | (cases a <;> cases b <;> rfl))
  obtain ⟨n, hn, e⟩ := Option.bind_eq_some_iff.mp (show (pLen x).bind _ = some d from e)
  obtain ⟨hz, rfl⟩ := ite_some e
  have hq : Q (.int n) H := post_now fd q (.int _) rfl
  cases x <;> first | (cases hn; done) | skip
  case str t =>
    cases hn
    exact call_len pins s σ H _ us Q I rx ⟨v, _, rfl, by rw [r1.str]; exact ⟨by rw [tx_len]; exact small_line hz, (tx_len _).symm⟩, hq⟩
  case lst t =>
    cases hn
    obtain ⟨a, vs, rfl, h1, p1⟩ := r1.lst
    exact call_len pins s σ H _ us Q I rx ⟨_, _, rfl, .inl ⟨vs, SqL.of h1, p1.length.symm⟩, hq⟩
  case tup t =>
    cases hn
    obtain ⟨a, vs, rfl, h1, p1⟩ := r1.tup
    exact call_len pins s σ H _ us Q I rx ⟨_, _, rfl, .inr ⟨vs, hK ▸ h1, p1.length.symm⟩, hq⟩
  case dct ks ws =>
    cases hn
    obtain ⟨a, kvs, rfl, h1, e1, nd, p1⟩ := r1.dct
    refine call_lenD pins s σ H _ us Q I rx ⟨a, kvs, rfl, h1, ?_⟩
    rw [e1, List.length_map] at hq
    exact hq
theorem c_int : CallR X (.type "int") (rC true g (pBf .int)) := by
  rintro pins s σ H xs us Q I rx ⟨F, ds, d, fd, r, e, q⟩
  obtain ⟨x, v, rfl, rfl, r1⟩ := one_of r e (fun ds h => by
    rcases ds with _ | ⟨a, _ | ⟨b, t⟩⟩
    · first | rfl | (cases a <;> rfl)
    · exact absurd rfl (h a)
    · first | rfl | (cases a <;> rfl) | (cases a <;> cases b <;> rfl))
  cases x <;> first | (cases e; done) | skip
  case int i =>
    cases e
    exact call_int1 pins s σ H _ us Q I rx (.inl ⟨i, by rw [r1.int], post_now fd q (.int _) rfl⟩)
  case bl i =>
    cases e
    exact call_int1 pins s σ H _ us Q I rx (.inr ⟨i, by rw [r1.bl], post_now fd q (.int _) rfl⟩)
theorem c_str : CallR X (.type "str") (rC true g (pBf .str)) := by
  rintro pins s σ H xs us Q I rx ⟨F, ds, d, fd, r, e, q⟩
  obtain ⟨x, v, rfl, rfl, r1⟩ := one_of r e (fun ds h => by
    rcases ds with _ | ⟨a, _ | ⟨b, t⟩⟩
    · first | rfl | (cases a <;> rfl)
    · exact absurd rfl (h a)
    · first | rfl | (cases a <;> rfl) | (cases a <;> cases b <;> rfl))
  cases x <;> first | (cases e; done) | skip
  case int i =>
    obtain ⟨hz, rfl⟩ := ite_some (show (if i.natAbs.log2 < 1900 then some (D.str (decT i)) else none) = some d from e)
    have hp := post_now (v := .str (tx (decT i))) fd q (.str _) rfl
    have et : tx (decT i) = Str.ofString (toString i) := tx_of _
    rw [et] at hp
    exact call_str_int pins s σ H _ us Q I rx ⟨i, by rw [r1.int], by omega, hp⟩
theorem items_signs {x : List Nat} {acc : Array Value} (h : ItemsOf (SignAt (tx x)) acc (tx x).cps.size) : Vals (x.map fun c => V.str (tx [c])) acc.toList := by
  obtain ⟨h1, h2⟩ := h
  have hs : (tx x).cps.size = x.length := tx_len x
  refine vals_of_at (by have h3 : acc.toList.length = acc.size := Array.length_toList; rw [List.length_map, h3, h1, hs]) fun j y u hy hu => ?_
  obtain ⟨c, t, hc, rfl⟩ := h2 j u (by simpa using hu)
  have hc' : x[j]? = some c := by simpa [tx] using hc
  rw [List.getElem?_map, hc'] at hy
  cases hy
  exact ⟨t, rfl⟩
theorem c_list (hK : g.K = X.K) (hc : X.calm = true) : CallR X (.type "list") (rC true g (pBf .list)) := by
  rintro pins s σ H xs us Q I rx ⟨F, ds, d, fd, r, e, q⟩
  obtain ⟨x, v, rfl, rfl, r1⟩ := one_of r e (fun ds h => by
    rcases ds with _ | ⟨a, _ | ⟨b, t⟩⟩
    · first | rfl | (cases a <;> rfl)
    · exact absurd rfl (h a)
    · first | rfl | (cases a <;> rfl) | (cases a <;> cases b <;> rfl))
  cases x <;> first | (cases e; done) | skip
  case lst t =>
    cases e
    obtain ⟨a, vs, rfl, h1, p1⟩ := r1.lst
    exact call_list_of pins s σ H _ us Q I rx ⟨a, vs, rfl, .inl (SqL.of h1), fun p hp => post_lst fd q hp p1⟩
  case tup t =>
    cases e
    obtain ⟨a, vs, rfl, h1, p1⟩ := r1.tup
    exact call_list_of pins s σ H _ us Q I rx ⟨a, vs, rfl, .inr (hK ▸ h1), fun p hp => post_lst fd q hp p1⟩
  case dct ks ws =>
    obtain ⟨hz, rfl⟩ := ite_some e
    obtain ⟨a, kvs, rfl, h1, e1, nd, p1⟩ := r1.dct
    subst e1
    exact call_list_dK hc pins s σ H _ us Q I rx ⟨a, kvs, rfl, h1, fun p hp => post_lst fd q hp (keys_rep F H kvs)⟩
  case str t =>
    obtain ⟨hz, rfl⟩ := ite_some e
    obtain ⟨u, rfl, ru⟩ := vals1 rx
    rw [r1.str] at ru
    obtain ⟨tk0, rfl⟩ := ru
    refine call_list_str (I.ok.hd hc) (tx t) tk0 (fun h' tk acc' c' hk ho hi => ?_) (by have := small_line hz; simpa [tx] using this)
    have hn : H s.heap.objs.size = none := I.hok.fresh (Nat.le_refl _)
    have hv := items_signs hi
    refine ⟨.ref s.heap.objs.size, _, I.laid (a := s.heap.objs.size) (o := .lst (t.map fun c => V.str (tx [c]))) (h' := h') (t' := tk) hk (Nat.le_refl _) ⟨by rw [List.length_map]; exact small_line hz, acc'.toList, c', hv, by simpa using ho⟩, rfl, post_lst fd q hn ?_⟩
    have : (t.map fun c => D.str [c]) = (t.map fun c => [c]).map D.str := by rw [List.map_map]; rfl
    rw [this, show (t.map fun c => V.str (tx [c])) = (t.map fun c => [c]).map fun s => V.str (tx s) by rw [List.map_map]; rfl]
    exact Reps.strs _
theorem c_tuple (hK : g.K = X.K) : CallR X (.type "tuple") (rC true g (pBf .tuple)) := by
  rintro pins s σ H xs us Q I rx ⟨F, ds, d, fd, r, e, q⟩
  obtain ⟨x, v, rfl, rfl, r1⟩ := one_of r e (fun ds h => by
    rcases ds with _ | ⟨a, _ | ⟨b, t⟩⟩
    · first | rfl | (cases a <;> rfl)
    · exact absurd rfl (h a)
    · first | rfl | (cases a <;> rfl) | (cases a <;> cases b <;> rfl))
  cases x <;> first | (cases e; done) | skip
  case lst t =>
    cases e
    obtain ⟨a, vs, rfl, h1, p1⟩ := r1.lst
    exact call_tuple_of pins s σ H _ us Q I rx ⟨a, vs, rfl, .inl ⟨SqL.of h1, fun p hp => post_tup fd q hp p1⟩⟩
  case tup t =>
    cases e
    obtain ⟨a, vs, rfl, h1, p1⟩ := r1.tup
    exact call_tuple_of pins s σ H _ us Q I rx ⟨a, vs, rfl, .inr ⟨hK ▸ h1, post_now fd q (.tup h1 p1) rfl⟩⟩
theorem c_all (hc : X.calm = true) : CallR X (.builtin "all") (rC true g (pBf .all)) := by
  rintro pins s σ H xs us Q I rx ⟨F, ds, d, fd, r, e, q⟩
  obtain ⟨x, v, rfl, rfl, r1⟩ := one_of r e (fun ds h => by
    rcases ds with _ | ⟨a, _ | ⟨b, t⟩⟩
    · first | rfl | (cases a <;> rfl)
    · exact absurd rfl (h a)
    · first | rfl | (cases a <;> rfl) | (cases a <;> cases b <;> rfl))
  cases x <;> first | (cases e; done) | skip
  case lst t =>
    obtain ⟨bs, hb, rfl⟩ := Option.map_eq_some_iff.mp (show (allBl t).map _ = some d from e)
    obtain ⟨a, vs, rfl, h1, p1⟩ := r1.lst
    have e2 := p1.allBl hb
    subst e2
    exact cr_all hc pins s σ H _ us Q I rx ⟨a, bs, rfl, SqL.of h1, post_now fd q (.bl _) rfl⟩
theorem c_any (hc : X.calm = true) : CallR X (.builtin "any") (rC true g (pBf .any)) := by
  rintro pins s σ H xs us Q I rx ⟨F, ds, d, fd, r, e, q⟩
  obtain ⟨x, v, rfl, rfl, r1⟩ := one_of r e (fun ds h => by
    rcases ds with _ | ⟨a, _ | ⟨b, t⟩⟩
    · first | rfl | (cases a <;> rfl)
    · exact absurd rfl (h a)
    · first | rfl | (cases a <;> rfl) | (cases a <;> cases b <;> rfl))
  cases x <;> first | (cases e; done) | skip
  case lst t =>
    obtain ⟨bs, hb, rfl⟩ := Option.map_eq_some_iff.mp (show (allBl t).map _ = some d from e)
    obtain ⟨a, vs, rfl, h1, p1⟩ := r1.lst
    have e2 := p1.allBl hb
    subst e2
    exact cr_any hc pins s σ H _ us Q I rx ⟨a, bs, rfl, SqL.of h1, post_now fd q (.bl _) rfl⟩
theorem c_sum (hc : X.calm = true) : CallR X (.builtin "sum") (rC true g (pBf .sum)) := by
  rintro pins s σ H xs us Q I rx ⟨F, ds, d, fd, r, e, q⟩
  obtain ⟨x, v, rfl, rfl, r1⟩ := one_of r e (fun ds h => by
    rcases ds with _ | ⟨a, _ | ⟨b, t⟩⟩
    · first | rfl | (cases a <;> rfl)
    · exact absurd rfl (h a)
    · first | rfl | (cases a <;> rfl) | (cases a <;> cases b <;> rfl))
  cases x <;> first | (cases e; done) | skip
  case lst t =>
    obtain ⟨bs, hb, rfl⟩ := Option.map_eq_some_iff.mp (show (allInt t).map _ = some d from e)
    obtain ⟨a, vs, rfl, h1, p1⟩ := r1.lst
    have e2 := p1.allInt hb
    subst e2
    exact cr_sum hc pins s σ H _ us Q I rx ⟨a, bs, rfl, SqL.of h1, post_now fd q (.int _) rfl⟩
theorem join_cons (sep : List Nat) : ∀ (r : List (List Nat)) (x : List Nat), joinT sep (x :: r) = x ++ r.flatMap fun y => sep ++ y
  | [], x => by simp [joinT]
  | y :: r, x => by
    rw [joinT, join_cons sep r y]
    simp
theorem join_fold (sep : List Nat) : ∀ (r : List (List Nat)) (a : List Nat), (r.map tx).foldl (fun acc p => acc ++ (tx sep).cps ++ p.cps) a.toArray = (a ++ r.flatMap fun y => sep ++ y).toArray
  | [], a => by simp
  | y :: r, a => by
    rw [List.map_cons, List.foldl_cons]
    have : a.toArray ++ (tx sep).cps ++ (tx y).cps = (a ++ sep ++ y).toArray := by simp [tx]
    rw [this, join_fold sep r]
    simp
theorem join_glued (sep : List Nat) : ∀ ys : List (List Nat), Txt.join (tx sep) (ys.map tx) = tx (joinT sep ys) := by
  intro ys
  unfold Txt.join Builtin.Str.glued
  cases ys with
  | nil => rfl
  | cons x r =>
    rw [join_cons]
    show (⟨(r.map tx).foldl (fun acc p => acc ++ (tx sep).cps ++ p.cps) x.toArray⟩ : Str) = _
    rw [join_fold]
    rfl
theorem m_join : MtR X "str.join" (rM true g (pMt .join)) := by
  rintro pins s σ H x xs v us Q I rx rxs ⟨F, a, ds, d, fd, r1, r, e, q⟩
  obtain ⟨b, w2, rfl, rfl, r2⟩ := one_of (f := pMt .join a) r e (fun ds h => by
    rcases ds with _ | ⟨b, _ | ⟨c, t⟩⟩
    · cases a <;> rfl
    · exact absurd rfl (h b)
    · cases a <;> first | rfl | (cases b <;> rfl))
  cases a <;> first | (cases e; done) | skip
  cases b <;> first | (cases e; done) | skip
  case str.lst t ls =>
    obtain ⟨ys, hy, e⟩ := Option.bind_eq_some_iff.mp (show (allStr ls).bind _ = some d from e)
    obtain ⟨hz, rfl⟩ := ite_some e
    obtain ⟨p, vs, rfl, h1, p1⟩ := r2.lst
    have e2 := p1.allStr hy
    subst e2
    refine mt_join pins s σ H x _ v us Q I rx rxs ⟨tx t, p, ys.map tx, r1.str, rfl, .inl ?_, ?_, ?_⟩
    · rw [List.map_map]; exact SqL.of h1
    · have := small_line hz
      rw [sizeLine_eq] at this
      rw [List.map_map, List.length_map, tx_len]
      have e3 : ((fun x : Str => x.length) ∘ tx) = fun x : List Nat => x.length := by funext x; exact tx_len x
      rw [e3]; exact this
    · rw [join_glued]; exact post_now fd q (.str _) rfl
end
end TE
/-! Te8: subscripts, slices, isinstance, two numbers' max and min. -/
namespace TE
open PySem L2
section
variable {X : Cx} {g : G}
theorem ix_eq {α : Type} (xs : List α) (i : Int) : atI xs i = (ixOf xs.length i).bind fun k => xs[k]? := by
  unfold atI
  congr 1
  unfold ixN ixOf
  by_cases h : 0 ≤ i
  · rw [if_pos h, if_pos h]
    by_cases h2 : i < xs.length
    · rw [if_pos h2, if_pos (by omega)]
    · rw [if_neg h2, if_neg (by omega)]
  · rw [if_neg h, if_neg h]
    by_cases h2 : -(xs.length : Int) ≤ i
    · rw [if_pos h2, if_pos (by omega)]
      congr 1
      omega
    · rw [if_neg h2, if_neg (by omega)]
theorem i_idx (hK : g.K = X.K) : IxR X (rO2 false g pIdx) := by
  rintro value slice pins s σ H x y v u Q I rx ry ⟨F, d1, d2, d, fd, r1, r2, e, q⟩ hs
  cases d1 <;> cases d2 <;> first | (simp [pIdx] at e; done) | skip
  case lst.int ds i =>
    obtain ⟨a, vs, rfl, h1, p1⟩ := r1.lst
    obtain ⟨k, hk, hd⟩ := Option.bind_eq_some_iff.mp (show (ixOf ds.length i).bind _ = some d from e)
    obtain ⟨w, hw, rw'⟩ := p1.get hd
    refine ix_list value slice pins s σ H _ y v u Q I rx ry ⟨a, vs, i, w, rfl, r2.int, SqL.of h1, ?_, post_now fd q rw' rfl⟩ hs
    rw [ix_eq, p1.length, hk]; exact hw
  case tup.int ds i =>
    obtain ⟨a, vs, rfl, h1, p1⟩ := r1.tup
    obtain ⟨k, hk, hd⟩ := Option.bind_eq_some_iff.mp (show (ixOf ds.length i).bind _ = some d from e)
    obtain ⟨w, hw, rw'⟩ := p1.get hd
    refine ix_tup value slice pins s σ H _ y v u Q I rx ry ⟨a, vs, i, w, rfl, r2.int, hK ▸ h1, ?_, post_now fd q rw' rfl⟩ hs
    rw [ix_eq, p1.length, hk]; exact hw
  case str.int t i =>
    obtain ⟨hz, e⟩ : small t.length = true ∧ _ := by
      unfold pIdx at e
      simp only at e
      split at e
      · exact ⟨by assumption, e⟩
      · cases e
    obtain ⟨k, hk, hd⟩ := Option.bind_eq_some_iff.mp e
    obtain ⟨c, hc, rfl⟩ := Option.map_eq_some_iff.mp hd
    refine ix_str value slice pins s σ H x y v u Q I rx ry ⟨tx t, i, c, r1.str, r2.int, by rw [tx_len]; exact small_line hz, ?_, ?_⟩ hs
    · rw [ix_eq, tx_cps, hk]; exact hc
    · exact post_now fd q (.str [c]) rfl
theorem sl_eq (n d : Nat) (i : Option Int) (h : d ≤ n) : HT.sIx n d i = slOf n i d := by
  unfold HT.sIx slOf
  cases i with
  | none => rfl
  | some v =>
    simp only
    by_cases h0 : 0 ≤ v
    · rw [if_neg (by omega), if_pos h0]
    · rw [if_pos (by omega), if_neg h0]; omega
theorem cutV_eq {F : Addr → Prop} {H : Hp} {vs : List V} {ds : List D} (r : Reps g F H vs ds) (lo hi : Option Int) : Reps g F H (cutV vs lo hi) (cut ds lo hi) := by
  unfold cutV cut
  rw [sl_eq _ _ lo (Nat.zero_le _), sl_eq _ _ hi (Nat.le_refl _), r.length]
  exact (r.drop _).take _
theorem slOf_le (n d : Nat) (i : Option Int) (h : d ≤ n) : slOf n i d ≤ n := by
  unfold slOf
  cases i with
  | none => exact h
  | some v => simp only; split <;> omega
theorem s_slice (hK : g.K = X.K) : SlR X (fun x lo hi H Q => ∃ F d1 d, FD F H ∧ RR g F H x d1 ∧ pSl d1 lo hi = some d ∧ PostV true g F H d Q) := by
  rintro pins s σ H x v vl vu lo hi sl Q I rx hsl h1 h2 ⟨F, d1, d, fd, r1, e, q⟩
  cases d1 <;> first | (cases e; done) | skip
  case lst ds =>
    cases e
    obtain ⟨a, vs, rfl, hh, p1⟩ := r1.lst
    exact sl_list pins s σ H _ v vl vu lo hi sl Q I rx hsl h1 h2 ⟨a, vs, rfl, SqL.of hh, fun p hp => post_lst fd q hp (cutV_eq p1 lo hi)⟩
  case tup ds =>
    cases e
    obtain ⟨a, vs, rfl, hh, p1⟩ := r1.tup
    refine sl_tupA pins s σ H _ v vl vu lo hi sl Q I rx hsl h1 h2 ⟨a, vs, rfl, hK ▸ hh, fun hz => ?_, fun _ p hp => post_tup fd q hp (cutV_eq p1 lo hi)⟩
    have e1 : cut ds lo hi = ds := by
      have hl := p1.length
      rw [sl_eq _ _ lo (Nat.zero_le _), sl_eq _ _ hi (Nat.le_refl _), hl] at hz
      unfold cut
      rw [hz.1, hz.2]
      simp
    rw [e1] at q
    exact post_now fd q (.tup hh p1) rfl
  case str t =>
    obtain ⟨hz, rfl⟩ := ite_some e
    refine sl_str pins s σ H x v vl vu lo hi sl Q I rx hsl h1 h2 ⟨tx t, r1.str, by rw [tx_len]; exact small_line hz, ?_⟩
    have e1 : cutS (tx t) lo hi = tx (cut t lo hi) := by
      unfold cutS cut
      rw [tx_len, tx_cps, sl_eq _ _ lo (Nat.zero_le _), sl_eq _ _ hi (Nat.le_refl _)]
      rfl
    rw [e1]
    exact post_now fd q (.str _) rfl
  case scr ns =>
    cases e
    obtain ⟨a, rfl, hh⟩ := r1.scr
    refine sl_list pins s σ H _ v vl vu lo hi sl Q I rx hsl h1 h2 ⟨a, ns.map V.int, rfl, hK ▸ hh.sq, fun p hp => post_lst fd q hp ?_⟩
    have e1 : cutV (ns.map V.int) lo hi = (cut ns lo hi).map V.int := by
      unfold cutV cut
      rw [List.length_map, sl_eq _ _ lo (Nat.zero_le _), sl_eq _ _ hi (Nat.le_refl _), List.map_take, List.map_drop]
    rw [e1]
    exact Reps.ints _
theorem c_max2 (hc : X.calm = true) : CallR X (.builtin "max") (rC true g (pBf .max2)) := by
  rintro pins s σ H xs us Q I rx ⟨F, ds, d, fd, r, e, q⟩
  obtain ⟨a, b, w1, w2, rfl, rfl, r1, r2⟩ := two_of r e (fun ds h => by
    rcases ds with _ | ⟨a, _ | ⟨b, _ | ⟨c, t⟩⟩⟩
    · rfl
    · cases a <;> rfl
    · exact absurd rfl (h a b)
    · cases a <;> first | rfl | (cases b <;> rfl))
  cases a <;> first | (cases e; done) | skip
  cases b <;> first | (cases e; done) | skip
  case int.int i j =>
    cases e
    exact call_max2 hc pins s σ H _ us Q I rx ⟨i, j, by rw [r1.int, r2.int], post_now fd q (.int _) rfl⟩
theorem c_min2 (hc : X.calm = true) : CallR X (.builtin "min") (rC true g (pBf .min2)) := by
  rintro pins s σ H xs us Q I rx ⟨F, ds, d, fd, r, e, q⟩
  obtain ⟨a, b, w1, w2, rfl, rfl, r1, r2⟩ := two_of r e (fun ds h => by
    rcases ds with _ | ⟨a, _ | ⟨b, _ | ⟨c, t⟩⟩⟩
    · rfl
    · cases a <;> rfl
    · exact absurd rfl (h a b)
    · cases a <;> first | rfl | (cases b <;> rfl))
  cases a <;> first | (cases e; done) | skip
  cases b <;> first | (cases e; done) | skip
  case int.int i j =>
    cases e
    exact call_min2 hc pins s σ H _ us Q I rx ⟨i, j, by rw [r1.int, r2.int], post_now fd q (.int _) rfl⟩
/-! ### isinstance -/
def tyN : Ty → String
  | .int => "int" | .bool => "bool" | .str => "str" | .list => "list" | .tuple => "tuple" | .dict => "dict" | .none => "NoneType"
/-- a class as a value -/
def clV (g : G) : Cl → V
  | .ty t => .ty (tyN t)
  | .own C => .ref (g.ca C)
def clU (g : G) : Cl → Value
  | .ty t => .type (tyN t)
  | .own C => .ref (g.ca C)
theorem clV_ok (c : Cl) : ClsV (clV g c) (clU g c) := by
  cases c with
  | ty t => exact .ty _
  | own C => exact .own _
/-- what is known of the text's own classes -/
structure OwnCl (g : G) (C : Nat) : Prop where
  cl : Cls g.K (g.ca C)
  ha : PySem.W.findIn g.K (.ref (g.ca C)) "__class__" = some (some (.builtin "object.__class__"))
  hn : PySem.W.specialIn g.K (.builtin "object.__class__") "__get__" = some (some (.builtin "getset_descriptor.__get__"))
  htk : PySem.W.takesIn g.K (.builtin "object.__class__") = some true
  hm : PySem.W.mroIn g.K (g.ca C) (.type "object") = some true
  no : ∀ t : Ty, PySem.W.kitOne g.K (.ref (g.ca C)) (.type (tyN t)) = some false
  of : ∀ t : Ty, PySem.W.kitOne g.K (.type (tyN t)) (.ref (g.ca C)) = some false
/-- of all of them (n: how many) -/
structure OwnAll (g : G) (n : Nat) : Prop where
  one : ∀ C, C < n → OwnCl g C
  two : ∀ C C', C < n → C' < n → PySem.W.kitOne g.K (.ref (g.ca C)) (.ref (g.ca C')) = some (C == C')
theorem kit_tys {K : PySem.W.Frag} : ∀ a b : Ty, PySem.W.kitOne K (.type (tyN a)) (.type (tyN b)) = some (a == b || (a == .bool && b == .int)) := by
  intro a b
  refine kit_ty ?_
  cases a <;> cases b <;> decide +kernel
theorem tyX {F : Addr → Prop} {H : Hp} {n : Nat} (hK : g.K = X.K) (ow : OwnAll g n) {v : V} {d : D} {c : Cl} (r : RR g F H v d) (h : tyD d = some c) (hc : ∀ C, c = .own C → C < n) : TyX X.K H v (clU g c) := by
  cases d <;> first | (cases h; done) | skip
  case non => cases h; rw [r.non]; exact .base .non
  case bl b => cases h; rw [r.bl]; exact .base (.bl b)
  case int i => cases h; rw [r.int]; exact .base (.int i)
  case str t => cases h; rw [r.str]; exact .base (.str _)
  case lst t =>
    cases h
    obtain ⟨a, vs, rfl, hh, _⟩ := r.lst
    exact .base (.lst hh)
  case tup t =>
    cases h
    obtain ⟨a, vs, rfl, hh, _⟩ := r.tup
    rw [hK] at hh
    rcases hh with (hh | ⟨o, hh⟩) | ⟨o, its, m, hk, hc, _⟩
    · exact .base (.tup hh)
    · exact .fTuple hh
    · exact .kTuple hk hc
  case dct ks ws =>
    cases h
    obtain ⟨a, kvs, rfl, hh, _⟩ := r.dct
    exact .base (.dK hh)
  case obj C ds =>
    cases h
    have o := ow.one C (hc C rfl)
    have hh : ∃ a dx fs, v = .ref a ∧ H a = some (.ins (g.ca C) dx fs) := by
      rcases r with r | ⟨p, rfl, dx, vs, h1, _⟩
      · cases r with
        | obj f h1 l r => exact ⟨_, _, _, rfl, h1⟩
      · exact ⟨p, dx, _, rfl, h1⟩
    obtain ⟨a, dx, fs, rfl, hh⟩ := hh
    rw [← hK]
    exact .base (.ins hh o.cl o.ha o.hn o.htk o.hm)
theorem kit_one {n : Nat} (ow : OwnAll g n) {d : D} {t c : Cl} (h : tyD d = some t) (ht : clOk n t = true) (hc : clOk n c = true) : PySem.W.kitOne g.K (clU g t) (clU g c) = some (isC d c) := by
  cases c with
  | ty b =>
    cases t with
    | ty a =>
      show PySem.W.kitOne g.K (.type (tyN a)) (.type (tyN b)) = _
      rw [kit_tys]
      cases d <;> first | (cases h; done) | (cases h; cases b <;> rfl)
    | own C =>
      show PySem.W.kitOne g.K (.ref (g.ca C)) (.type (tyN b)) = _
      rw [(ow.one C (of_decide_eq_true ht)).no b]
      cases d <;> first | (cases h; done) | (cases h; cases b <;> rfl)
  | own C' =>
    cases t with
    | ty a =>
      show PySem.W.kitOne g.K (.type (tyN a)) (.ref (g.ca C')) = _
      rw [(ow.one C' (of_decide_eq_true hc)).of a]
      cases d <;> first | (cases h; done) | (cases h; rfl)
    | own C =>
      show PySem.W.kitOne g.K (.ref (g.ca C)) (.ref (g.ca C')) = _
      rw [ow.two C C' (of_decide_eq_true ht) (of_decide_eq_true hc)]
      cases d <;> first | (cases h; done) | cases h
      show some (C == C') = some (C' == C)
      congr 1
      rw [Bool.eq_iff_iff, beq_iff_eq, beq_iff_eq]; exact ⟨Eq.symm, Eq.symm⟩
theorem kit_any {n : Nat} (ow : OwnAll g n) {d : D} {t : Cl} (h : tyD d = some t) (ht : clOk n t = true) : ∀ cs : List Cl, cs.all (clOk n) = true → PySem.W.kitAny g.K (clU g t) (cs.map (clU g)) = some (cs.any (isC d))
  | [], _ => kitAny_nil
  | c :: cs, hc => by
    simp only [List.all_cons, Bool.and_eq_true] at hc
    rw [List.map_cons, List.any_cons]
    refine kitAny_cons (kit_one ow h ht hc.1) (fun e => ?_) fun e => ?_
    · rw [e, Bool.false_or]; exact kit_any ow h ht cs hc.2
    · rw [e, Bool.true_or]
end
end TE
/-! Te9: operands and arguments: names are read late. -/
namespace TE
open PySem L2
/-- what comes is one's own where it can be written -/
def frE (p : Pr) : E → Bool
  | .bad => true
  | .v _ => false
  | .k _ => true
  | .op .idx _ => false
  | .op _ _ => true
  | .and_ _ b => frE p b
  | .or_ _ b => frE p b
  | .not_ _ => true
  | .ite _ a b => frE p a && frE p b
  | .chain _ _ _ _ _ => true
  | .call f _ _ => (p.fi f).own
  | .mk _ _ _ => true
  | .meth _ _ _ _ => false
  | .fld _ _ => false
  | .sl _ _ _ => true
  | .met _ _ _ => true
  | .lc _ _ _ _ _ => true
  | .pop _ _ => false
  | .mv _ => false
  | .callK s _ => (p.fi (p.sh s).f).own
  | .mkK _ _ _ => true
  | .own _ _ => false
def rdO (g : G) (mk : Nat → Kd) (p : Pr) : E → TE
  | .v i => tVar i
  | c => rdE (frE p c) g mk (evE p c)
def rdOs (g : G) (mk : Nat → Kd) (p : Pr) : List E → TA
  | [] => tNil
  | c :: cs => tCons (rdO g mk p c) (rdOs g mk p cs)
/-- the values of operands: a name's is what its slot holds -/
inductive AR (g : G) (F : Addr → Prop) (H : Hp) (σ : L2.St) : List E → List V → List D → Prop
  | nil : AR g F H σ [] [] []
  | slot {i : Nat} {v : V} {d : D} {es : List E} {vs : List V} {ds : List D} : σ[i]? = some (some v) → AR g F H σ es vs ds → AR g F H σ (.v i :: es) (v :: vs) (d :: ds)
  | val {c : E} {v : V} {d : D} {es : List E} {vs : List V} {ds : List D} : (∀ i, c ≠ .v i) → Rep g F H v d → AR g F H σ es vs ds → AR g F H σ (c :: es) (v :: vs) (d :: ds)
section
variable {g : G} {mk : Nat → Kd} {M F F' : Addr → Prop} {H H' : Hp} {σ : L2.St} {e e' : Ev} {p : Pr}
theorem AR.stp (m : MOk M F H) (s : Stp M F H F' H') : ∀ {es : List E} {vs : List V} {ds : List D}, AR g F H σ es vs ds → AR g F' H' σ es vs ds
  | _, _, _, .nil => .nil
  | _, _, _, .slot h r => .slot h (AR.stp m s r)
  | _, _, _, .val n h r => .val n (h.stp m s) (AR.stp m s r)
/-- the slot of a name that is read -/
theorem REnv.rr (r : REnv g mk F H σ e) {i : Nat} {d : D} {v : V} (h : get e i = some d) (hv : σ[i]? = some (some v)) : RR g F H v d := by
  cases hk : mk i with
  | n =>
    obtain ⟨w, hw, x⟩ := r.n i d hk h
    rw [hv] at hw; cases hw
    exact .inl x
  | m =>
    obtain ⟨q, hq, _, x⟩ := r.m i d hk h
    rw [hv] at hq; cases hq
    exact .inr ⟨q, rfl, x⟩
  | b =>
    obtain ⟨w, hw, x⟩ := r.b i d hk h
    rw [hv] at hw; cases hw
    rcases x with x | ⟨q, rfl, _, x⟩
    · exact .inl x
    · exact .inr ⟨q, rfl, x⟩
theorem AR.rrs (r : REnv g mk F H σ e) : ∀ {es : List E} {vs : List V} {ds ds' : List D}, AR g F H σ es vs ds → late es ds e = some ds' → RRs g F H vs ds'
  | _, _, _, _, .nil, h => by
    cases h; exact .nil
  | _, _, _, _, .slot hv a, h => by
    simp only [late] at h
    obtain ⟨d, hd, h⟩ := Option.bind_eq_some_iff.mp h
    obtain ⟨ds2, h2, rfl⟩ := Option.map_eq_some_iff.mp h
    exact .cons (r.rr hd hv) (AR.rrs r a h2)
  | c :: es, _, _, _, .val hn hr a, h => by
    have e1 : ∀ d ds, late (c :: es) (d :: ds) e = (late es ds e).map (d :: ·) := fun d ds => by
      cases c <;> first | rfl | exact absurd rfl (hn _)
    rw [e1] at h
    obtain ⟨ds2, h2, rfl⟩ := Option.map_eq_some_iff.mp h
    exact .cons (.inl hr) (AR.rrs r a h2)
theorem bind_ok {α β : Type} {r : R α} {f : α → Ev → R β} {b : β} {e : Ev} (h : r.bind f = .ok b e) : ∃ a e1, r = .ok a e1 ∧ f a e1 = .ok b e := by
  cases r with
  | ok a e1 => exact ⟨a, e1, rfl, h⟩
  | err x e1 => cases h
  | bad => cases h
theorem ofO_ok {α : Type} {o : Option α} {e e' : Ev} {a : α} (h : R.ofO o e = .ok a e') : o = some a ∧ e' = e := by
  cases o with
  | none => cases h
  | some b => cases h; exact ⟨rfl, rfl⟩
/-- operands, from the left -/
theorem ops_use : ∀ {cs : List E} {F : Addr → Prop} {H : Hp} {e e1 : Ev} {ds : List D} {Q : List V → Hp → Prop}, REnv g mk F H σ e → evEs p cs e = .ok ds e1 → (∀ F' H' vs, Aft g mk F H σ e F' H' e1 → AR g F' H' σ cs vs ds → Q vs H') → rdOs g mk p cs σ H Q
  | [], F, H, e, e1, ds, Q, en, h, k => by
    simp only [evEs] at h
    cases h
    exact k F H [] (.refl en) .nil
  | c :: cs, F, H, e, e1, ds, Q, en, h, k => by
    simp only [evEs] at h
    obtain ⟨d, e2, h1, h⟩ := bind_ok h
    obtain ⟨ds2, e3, h2, h⟩ := bind_ok h
    cases h
    by_cases hv : ∃ i, c = .v i
    · obtain ⟨i, rfl⟩ := hv
      simp only [evE] at h1
      obtain ⟨hg, rfl⟩ := ofO_ok h1
      have hs : ∃ v, σ[i]? = some (some v) := by
        cases hk : mk i with
        | n => obtain ⟨w, hw, _⟩ := en.n i d hk hg; exact ⟨w, hw⟩
        | m => obtain ⟨w, hw, _⟩ := en.m i d hk hg; exact ⟨_, hw⟩
        | b => obtain ⟨w, hw, _⟩ := en.b i d hk hg; exact ⟨w, hw⟩
      obtain ⟨v, hs⟩ := hs
      refine ⟨v, hs, ops_use en h2 fun F' H' vs a ar => k F' H' _ a (.slot hs ar)⟩
    · have e0 : rdO g mk p c = rdE (frE p c) g mk (evE p c) := by
        cases c <;> first | rfl | exact absurd ⟨_, rfl⟩ hv
      show rdO g mk p c σ H fun x H1 => rdOs g mk p cs σ H1 fun xs H2 => Q (x :: xs) H2
      rw [e0]
      refine use en ⟨d, e2, h1, fun F1 H1 v a r => ?_⟩
      refine ops_use a.en h2 fun F' H' vs b ar => k F' H' _ (a.trans b) (.val (fun i hc => hv ⟨i, hc⟩) (r.stp a.en.mok b.st) ar)
/-- an operation's operands and what is asked of it -/
theorem op_use {o : P} {cs : List E} {fr : Bool} {Q : VK} (h : rdE fr g mk (evE p (.op o cs)) σ H Q) : rdOs g mk p cs σ H fun vs H1 => rC fr g (pD o) vs H1 Q := by
  obtain ⟨F, e, en, h⟩ := h
  simp only [evE] at h
  cases h1 : evEs p cs e with
  | err x e1 => rw [h1] at h; exact h.elim
  | bad => rw [h1] at h; exact h.elim
  | ok ds e1 =>
    rw [h1] at h
    simp only [R.bind] at h
    cases h2 : late cs ds e1 with
    | none => rw [h2] at h; exact h.elim
    | some ds' =>
      rw [h2] at h
      simp only at h
      cases h3 : pD o ds' with
      | none => rw [h3] at h; exact h.elim
      | some d =>
        rw [h3] at h
        refine ops_use en h1 fun F1 H1 vs a ar => ⟨F1, ds', d, a.en.fd, ar.rrs a.en h2, h3, fun F2 H2 v s r => ?_⟩
        refine h F2 H2 v (a.trans (.add a.en s)) ?_
        unfold RV at r ⊢
        split
        · rename_i hc
          rw [if_pos hc] at r
          obtain ⟨q, e1, hn, nf, ro⟩ := r
          exact ⟨q, e1, a.st.fresh hn, nf, ro⟩
        · rename_i hc
          rw [if_neg hc] at r
          exact r
theorem rC_two {fr : Bool} {f : List D → Option D} {Q : VK} {x y : V} (no : ∀ ds, (∀ x y, ds ≠ [x, y]) → f ds = none) (h : rC fr g f [x, y] H Q) : rO2 fr g (fun a b => f [a, b]) x y H Q := by
  obtain ⟨F, ds, d, fd, r, e, q⟩ := h
  obtain ⟨a, b, v, w, rfl, ew, r1, r2⟩ := two_of r e no
  cases ew
  exact ⟨F, a, b, d, fd, r1, r2, e, q⟩
theorem rC_one {fr : Bool} {f : List D → Option D} {Q : VK} {x : V} (no : ∀ ds, (∀ x, ds ≠ [x]) → f ds = none) (h : rC fr g f [x] H Q) : rO1 fr g (fun a => f [a]) x H Q := by
  obtain ⟨F, ds, d, fd, r, e, q⟩ := h
  obtain ⟨a, v, rfl, ew, r1⟩ := one_of r e no
  cases ew
  exact ⟨F, a, d, fd, r1, e, q⟩
end
/-! ### readings may be weakened -/
theorem PE.weak {X : Cx} {e : Expr} {t t' : L2.TE} (h : PE X e t) (w : ∀ σ H Q, t' σ H Q → t σ H Q) : PE X e t' := ⟨fun pins s σ H Q I hq => h.run pins s σ H Q I (w σ H Q hq)⟩
theorem PT.weak {X : Cx} {e : Expr} {t t' : TT} (h : PT X e t) (w : ∀ σ H Q, t' σ H Q → t σ H Q) : PT X e t' := ⟨fun pins s σ H Q I hq => h.run pins s σ H Q I (w σ H Q hq)⟩
theorem PW.weak {X : Cx} {e : Expr} {t t' : TT} (h : PW X e t) (w : ∀ σ H Q, t' σ H Q → t σ H Q) : PW X e t' := ⟨fun wh pins s σ H Q I hq => h.run wh pins s σ H Q I (w σ H Q hq)⟩
theorem PA.weak {X : Cx} {e : List Expr} {t t' : TA} (h : PA X e t) (w : ∀ σ H Q, t' σ H Q → t σ H Q) : PA X e t' := ⟨fun pos pins s σ H Q I hq => h.run pos pins s σ H Q I (w σ H Q hq)⟩
theorem PS.weak {X : Cx} {e : Stmt} {t t' : TS} (h : PS X e t) (w : ∀ D σ H, t' D σ H → t D σ H) : PS X e t' := ⟨fun pins s σ H D I hq => h.run pins s σ H D I (w D σ H hq)⟩
theorem PSs.weak {X : Cx} {e : List Stmt} {t t' : TS} (h : PSs X e t) (w : ∀ D σ H, t' D σ H → t D σ H) : PSs X e t' := ⟨fun pins s σ H D I hq => h.run pins s σ H D I (w D σ H hq)⟩
theorem PI.weak {X : Cx} {tg e : Expr} {t t' : TI} (h : PI X tg e t) (w : ∀ σ H Q, t' σ H Q → t σ H Q) : PI X tg e t' := ⟨fun pins s σ H Q I hq => h.run pins s σ H Q I (w σ H Q hq)⟩
theorem PE.no {X : Cx} {e : Expr} {t : L2.TE} (h : ∀ σ H Q, ¬ t σ H Q) : PE X e t := ⟨fun pins s σ H Q I hq => (h σ H Q hq).elim⟩
end TE
/-! Te10: the check that a piece of the small language is a piece of the text. -/
namespace TE
open PySem L2
structure Tb where
  fns : List (Str × Nat)
  cls : List (Str × Nat)
  off : List Str
  nC : Nat
  pl : List Nat
/-- a def's or a block's names, their kinds, its scope -/
structure Bl where
  N : List Str
  kd : List Kd
  sc : Scope
def Bl.mk' (b : Bl) (i : Nat) : Kd := b.kd.getD i .n
def isG (sc : Scope) (x : Str) : Bool := match sc.names.lookup x with | some .globalImplicit => true | _ => false
def isV (sc : Scope) (x : Str) : Bool := match sc.names.lookup x with | some .local => true | some .cell => true | some .free => true | _ => false
def isLoc (sc : Scope) (x : Str) : Bool := match sc.names.lookup x with | some .local => true | _ => false
def okN (x : Str) : Bool := !(x == ("__debug__" : Str)) && !(x == ("__classdict__" : Str)) && !(x == ("__name__" : Str))
def nst : Expr → Bool
  | .Starred _ _ => false
  | _ => true
def nosup : Expr → Bool
  | .Call (.Name _ _) [] [] _ => false
  | _ => true
def plainIx : Expr → Bool
  | .Slice _ _ _ _ => false
  | _ => true
def nsp (N : List Str) (i : Nat) (x : Str) : Bool := match N[i]? with | some y => y == x | none => false
def bfN : Bf → Str
  | .len => "len" | .int => "int" | .list => "list" | .tuple => "tuple" | .all => "all" | .any => "any" | .sum => "sum" | .sum2 => "sum" | .sorted => "sorted" | .max2 => "max" | .min2 => "min" | .str => "str" | .bool => "bool"
def mtN : Mt → Str
  | .join => "join" | .split => "split"
def tyS : Ty → Str
  | .int => "int" | .bool => "bool" | .str => "str" | .list => "list" | .tuple => "tuple" | .dict => "dict" | .none => "NoneType"
def gname (T : Tb) (sc : Scope) (x : Str) : Bool := isG sc x && T.off.contains x && okN x
/-- a class's name -/
def isCN (T : Tb) (sc : Scope) : Cl → Expr → Bool
  | .ty .none, _ => false
  | .ty t, .Name x _ => x == tyS t && gname T sc x
  | .own C, .Name x _ => isG sc x && okN x && (match T.cls.lookup x with | some C' => C == C' | none => false) && decide (C < T.nC)
  | _, _ => false
def all2 {α β : Type} (f : α → β → Bool) : List α → List β → Bool
  | [], [] => true
  | a :: as, b :: bs => f a b && all2 f as bs
  | _, _ => false
def shape (T : Tb) (sc : Scope) (p : P) (e : Expr) : Bool :=
  match p, e with
  | .add, .BinOp _ .Add _ _ => true
  | .sub, .BinOp _ .Sub _ _ => true
  | .mul, .BinOp _ .Mult _ _ => true
  | .fdv, .BinOp _ .FloorDiv _ _ => true
  | .mod, .BinOp _ .Mod _ _ => true
  | .pow, .BinOp _ .Pow _ _ => true
  | .neg, .UnaryOp .USub _ _ => true
  | .eq, .Compare _ [.Eq] [r] _ => !behindInMarks .Eq r
  | .ne, .Compare _ [.NotEq] [r] _ => !behindInMarks .NotEq r
  | .lt, .Compare _ [.Lt] [r] _ => !behindInMarks .Lt r
  | .le, .Compare _ [.LtE] [r] _ => !behindInMarks .LtE r
  | .gt, .Compare _ [.Gt] [r] _ => !behindInMarks .Gt r
  | .ge, .Compare _ [.GtE] [r] _ => !behindInMarks .GtE r
  | .inn, .Compare _ [.In] [r] _ => !behindInMarks .In r
  | .nin, .Compare _ [.NotIn] [r] _ => !behindInMarks .NotIn r
  | .isN, .Compare _ [.Is] [.Constant .none _ _] _ => true
  | .noN, .Compare _ [.IsNot] [.Constant .none _ _] _ => true
  | .bf .sum2, _ => false
  | .bf .sorted, _ => false
  | .bf .bool, _ => false
  | .bf b, .Call (.Name x _) (_ :: _) [] _ => x == bfN b && gname T sc x
  | .idx, .Subscript _ s _ => plainIx s
  | .dct, .Dict [] [] _ => true
  | .isi n [c], .Call (.Name x _) [_, cx] [] _ => decide (n ≤ T.nC) && clOk n c && x == "isinstance" && gname T sc x && isCN T sc c cx && nst cx
  | .isi n cs, .Call (.Name x _) [_, .Tuple xs _ _] [] _ => decide (n ≤ T.nC) && cs.all (clOk n) && decide (cs.length ≤ 20) && x == "isinstance" && gname T sc x && all2 (isCN T sc) cs xs && xs.all nst
  | _, _ => false
def opnds (p : P) (e : Expr) : List Expr :=
  match p, e with
  | .isN, .Compare l _ _ _ => [l]
  | .noN, .Compare l _ _ _ => [l]
  | .isi _ _, .Call _ (a :: _) _ _ => [a]
  | .dct, _ => []
  | _, .BinOp l _ r _ => [l, r]
  | _, .UnaryOp _ x _ => [x]
  | _, .Compare l _ [r] _ => [l, r]
  | _, .Call _ as _ _ => as
  | _, .Subscript v s _ => [v, s]
  | _, _ => []
/-- own operators' forms -/
def ownS (T : Tb) (sc : Scope) (w : Ow) (e : Expr) : Bool :=
  match w, e with
  | .add, .BinOp _ .Add _ _ => true
  | .mul, .BinOp _ .Mult _ _ => true
  | .eq, .Compare _ [.Eq] [r] _ => !behindInMarks .Eq r
  | .eqL, .Compare _ [.Eq] [r] _ => !behindInMarks .Eq r
  | .ne, .Compare _ [.NotEq] [r] _ => !behindInMarks .NotEq r
  | .str, .Call (.Name x _) [_] [] _ => x == "str" && gname T sc x
  | .stat C m, .Call (.Attribute (.Name x _) m' apos) es [] cpos => m == m' && (apos.endLine == cpos.line) && decide (es.length < 20) && isG sc x && okN x && (match T.cls.lookup x with | some C' => C == C' | none => false)
  | _, _ => false
def ownO : Expr → List Expr
  | .BinOp l _ r _ => [l, r]
  | .Compare l _ [r] _ => [l, r]
  | .Call _ as _ _ => as
  | _ => []
def cmpOf : P → Option CmpOp
  | .eq => some .Eq | .ne => some .NotEq | .lt => some .Lt | .le => some .LtE | .gt => some .Gt | .ge => some .GtE | .inn => some .In | .nin => some .NotIn
  | _ => none
def ordP : P → Bool
  | .lt => true | .le => true | .gt => true | .ge => true | .eq => true | .ne => true
  | _ => false
def kOk : D → Const → Bool
  | .non, .none => true
  | .bl a, .bool b => a == b
  | .int i, .int j => i == j
  | .str s, .str x => x.cps.toList == s
  | _, _ => false
def strip1 : Expr → Expr
  | .BoolOp _ [x] _ => x
  | e => e
/-- slots lent, slots read -/
def msOf : List Kd → List E → List Nat
  | .m :: ks, .v i :: es => i :: msOf ks es
  | _ :: ks, _ :: es => msOf ks es
  | _, _ => []
def bsOf : List Kd → List E → List Nat
  | .m :: ks, _ :: es => bsOf ks es
  | _ :: ks, .v i :: es => i :: bsOf ks es
  | _ :: ks, _ :: es => bsOf ks es
  | _, _ => []
/-- arguments by the parameters' kinds -/
def lentOk (B : Bl) : List Kd → List E → Bool
  | [], [] => true
  | k :: ks, c :: cs => (match k, c with | .m, .v i => B.mk' i == .m | .m, _ => false | .n, .v i => B.mk' i == .n | _, _ => true) && lentOk B ks cs
  | _, _ => false
def kwOk : List Str → List Keyword → Bool
  | [], [] => true
  | k :: ks, ⟨some n, _, _⟩ :: r => k == n && kwOk ks r
  | _, _ => false
def selOk (n : Nat) (sel : List (Nat ⊕ (Nat × D))) : Bool := sel.all fun | .inl j => decide (j < n) | .inr _ => true
/-- the slots lent to be written are named once each -/
def ioOk (kd : List Kd) (es : List E) : Bool := decide (msOf kd es).Nodup && (msOf kd es).all fun i => !(bsOf kd es).contains i
def slotsOf (N : List Str) : List Nat → List (Str × Nat)
  | [] => []
  | i :: is => ((N[i]?).getD Str.empty, i) :: slotsOf N is
/-- a name that can be set: a local, or a cell of the block's own -/
def isSet (sc : Scope) (fnc : Str → Bool) (x : Str) : Bool := match sc.names.lookup x with | some .local => true | some .cell => fnc x | _ => false
def tgN (B : Bl) (sc : Scope) (fnc : Str → Bool) (i : Nat) (e : Expr) : Bool := match e with | .Name x _ => nsp B.N i x && isSet sc fnc x && (B.mk' i == .n) | _ => false
def tgOk (B : Bl) (sc : Scope) (fnc : Str → Bool) : Tg → Expr → Bool
  | .nm i, e => tgN B sc fnc i e
  | .tp is, .Tuple es _ _ => all2 (tgN B sc fnc) is es && decide (is.Nodup) && decide (1 < is.length)
  | _, _ => false
def isTup : Expr → Bool
  | .Tuple _ _ _ => true
  | _ => false
def celOf (scope : Scope) (x : Str) : Bool := scope.names.lookup x == some .cell
def notSet : Expr → Bool
  | .Set .. => false
  | _ => true
/-- the slot a loop walks in place -/
def slI : It → List Nat
  | .slot i => [i]
  | _ => []
def tgSlots : Tg → List Nat
  | .nm i => [i]
  | .tp is => is
/-- forms whose truth is that of their value -/
def plainT : Expr → Bool
  | .UnaryOp .Not _ _ => false
  | .BoolOp _ _ _ => false
  | .IfExp _ _ _ _ => false
  | .Compare _ _ _ _ => false
  | _ => true
mutual
/-- t: as a test -/
def chkE (T : Tb) (g : Pg) (B : Bl) : E → Bool → Scope → Expr → Bool
  | .bad, _, _, _ => true
  | .v i, t, sc, .Name x _ => nsp B.N i x && isV sc x && okN x && (t || B.mk' i == .n)
  | .k d, _, _, .Constant c _ _ => kOk d c
  | .op .tup es, _, sc, .Tuple xs _ _ => chkEs T g B es sc xs
  | .op .lst es, _, sc, .List xs _ => chkEs T g B es sc xs
  | .op p es, _, sc, e => shape T sc p e && chkAs T g B es sc (opnds p e)
  | .and_ a b, t, sc, .BoolOp .And (x :: y :: r) pos => chkE T g B a t sc x && chkE T g B b t sc (strip1 (.BoolOp .And (y :: r) pos))
  | .or_ a b, t, sc, .BoolOp .Or (x :: y :: r) pos => chkE T g B a t sc x && chkE T g B b t sc (strip1 (.BoolOp .Or (y :: r) pos))
  | .not_ a, t, sc, .UnaryOp .Not x _ => chkE T g B a t sc x
  | .ite c a b, t, sc, .IfExp x y z _ => !t && chkE T g B c true sc x && chkE T g B a false sc y && chkE T g B b false sc z
  | .chain p q a b c, _, sc, .Compare x [o, o'] [y, z] _ => ordP p && ordP q && (cmpOf p == some o) && (cmpOf q == some o') && !lastMarks [o, o'] [y, z] && chkE T g B a false sc x && chkE T g B b false sc y && chkE T g B c false sc z
  | .call f es [], _, sc, .Call (.Name x _) (a :: as) [] _ => T.pl.contains f && isG sc x && okN x && (match T.fns.lookup x with | some f' => f == f' | none => false) && (match g.defs[f]? with | some d => chkKs T g B es d.fi.kd sc (a :: as) && ioOk d.fi.kd es | none => false)
  | .callK s es, _, sc, .Call (.Name x _) as kws _ => isG sc x && okN x && (match g.sh[s]? with | some h => (match T.fns.lookup x with | some f' => h.f == f' | none => false) && (h.np == as.length) && kwOk h.ks kws && selOk es.length h.sel && (match g.defs[h.f]? with | some d => lentOk B d.fi.kd (pickE h.sel es) && ioOk d.fi.kd (pickE h.sel es) | none => false) | none => false) && chkAs T g B es sc (as ++ kws.map (·.value))
  | .mkK s C es, _, sc, .Call (.Name x _) as kws _ => isG sc x && okN x && (match g.sh[s]? with | some h => (match T.cls.lookup x with | some C' => C == C' | none => false) && decide (C < T.nC) && (g.init[C]? == some h.f) && (h.np == as.length) && kwOk h.ks kws && selOk es.length h.sel && (match g.defs[h.f]? with | some d => (d.fi.kd.head? == some .m) && lentOk B (d.fi.kd.drop 1) (pickE h.sel es) && ioOk (d.fi.kd.drop 1) (pickE h.sel es) | none => false) | none => false) && chkAs T g B es sc (as ++ kws.map (·.value))
  | .fld f a, _, sc, .Attribute o f' _ => f == f' && nosup o && chkE T g B a false sc o
  | .met m a es, _, sc, .Call (.Attribute o m' apos) (x :: xs) [] cpos => m' == mtN m && nosup o && (apos.endLine == cpos.line) && decide (xs.length < 20) && chkE T g B a false sc o && chkAs T g B es sc (x :: xs)
  | .sl a lo hi, _, sc, .Subscript x (.Slice l h none _) _ => (match a, x with | .v i, .Name y _ => nsp B.N i y && isV sc y && okN y | _, _ => chkE T g B a false sc x) && chkEs T g B lo sc l.toList && chkEs T g B hi sc h.toList
  | .lc own tg it ifs elt, t, sc, .ListComp x [⟨ta, i, cs, 0⟩] scope _ => !t &&
    blkC B.N sc scope (slotsOf B.N own) && (tgSlots tg).all own.contains && own.all (fun i => B.mk' i == .n) && tgOk B (relS scope sc) (celOf scope) tg ta && chkI T g B it sc ta i && chkTs T g B ifs (relS scope sc) cs && chkE T g B elt false (relS scope sc) x && notSet i
  | .own w es, _, sc, e => ownS T sc w e && chkEs T g B es sc (ownO e)
  | .mv i, t, sc, .Name x _ => !t && nsp B.N i x && isV sc x && okN x && (B.mk' i == .m)
  | .pop i a, t, sc, .Call (.Attribute (.Name x _) m apos) [y] [] cpos => !t && nsp B.N i x && isV sc x && okN x && (B.mk' i == .m) && m == "pop" && (apos.endLine == cpos.line) && nst y && chkE T g B a false sc y
  | _, _, _, _ => false
/-- operands: a name of any kind, or an expression -/
def chkAs (T : Tb) (g : Pg) (B : Bl) : List E → Scope → List Expr → Bool
  | [], _, [] => true
  | .v i :: cs, sc, .Name x _ :: es => nsp B.N i x && isV sc x && okN x && chkAs T g B cs sc es
  | c :: cs, sc, e :: es => nst e && chkE T g B c false sc e && chkAs T g B cs sc es
  | _, _, _ => false
def chkEs (T : Tb) (g : Pg) (B : Bl) : List E → Scope → List Expr → Bool
  | [], _, [] => true
  | c :: cs, sc, e :: es => nst e && chkE T g B c false sc e && chkEs T g B cs sc es
  | _, _, _ => false
/-- arguments by the parameters' kinds -/
def chkKs (T : Tb) (g : Pg) (B : Bl) : List E → List Kd → Scope → List Expr → Bool
  | [], [], _, [] => true
  | .v i :: cs, .m :: ks, sc, .Name x _ :: es => nsp B.N i x && isV sc x && okN x && (B.mk' i == .m) && chkKs T g B cs ks sc es
  | .v i :: cs, .b :: ks, sc, .Name x _ :: es => nsp B.N i x && isV sc x && okN x && chkKs T g B cs ks sc es
  | c :: cs, k :: ks, sc, e :: es => (k != .m) && nst e && chkE T g B c false sc e && chkKs T g B cs ks sc es
  | _, _, _, _ => false
def chkTs (T : Tb) (g : Pg) (B : Bl) : List E → Scope → List Expr → Bool
  | [], _, [] => true
  | [c], sc, [e] => chkE T g B c true sc e
  | _, _, _ => false
def chkI (T : Tb) (g : Pg) (B : Bl) : It → Scope → Expr → Expr → Bool
  | .slot i, sc, _, .Name x _ => nsp B.N i x && isV sc x && okN x
  | .val c, sc, _, e => chkE T g B c false sc e
  | .rng c, sc, _, .Call (.Name x _) [a] [] _ => x == "range" && gname T sc x && nst a && chkE T g B c false sc a
  | .rng2 c d, sc, _, .Call (.Name x _) [a, b] [] _ => x == "range" && gname T sc x && nst a && nst b && chkE T g B c false sc a && chkE T g B d false sc b
  | .zip c d, sc, ta, .Call (.Name x _) [a, b] [] _ => isTup ta && x == "zip" && gname T sc x && nst a && nst b && chkE T g B c false sc a && chkE T g B d false sc b
  | .enu c, sc, ta, .Call (.Name x _) [a] [] _ => isTup ta && x == "enumerate" && gname T sc x && nst a && chkE T g B c false sc a
  | _, _, _, _ => false
end
end TE
/-! Te11: one construct after another. -/
namespace TE
open PySem L2
/-- where the defs stand -/
structure Q9 where
  fa : Nat → Addr
  fd : Nat → FuncData
  fp : Nat → List Str
  dv : Nat → Nat → V
/-- the values by place -/
def pickV : List (Nat ⊕ (Nat × D)) → (Nat → V) → List V → List V
  | [], _, _ => []
  | .inl j :: r, dv, ws => ws.getD j .non :: pickV r dv ws
  | .inr (j, _) :: r, dv, ws => dv j :: pickV r dv ws
def kdf (kd : List Kd) (i : Nat) : Kd := kd.getD i .n
def GoodC (fi : Fi) (g : G) (F : Addr → Prop) (H : Hp) (vs : List V) (ds : List D) (Q : VK) : C → Prop
  | .ok d outs => ∀ F' H' v e', e'.length = vs.length → Aft g (kdf fi.kd) F H (vs.map some) (ds.map some) F' H' e' → outsOf fi.io e' = outs → RV fi.own g H F' H' v d → Q v H'
  | _ => False
/-- the promise of a def whose trees are those of c -/
def spOf (g : G) (fi : Fi) (c : List D → C) : Sp := fun vs H Q E => vs.length = fi.kd.length ∧ ∃ F ds, ds.length = vs.length ∧ REnv g (kdf fi.kd) F H (vs.map some) (ds.map some) ∧ GoodC fi g F H vs ds Q (c ds)
/-- what a method of an own class is -/
structure OwT (K : PySem.W.Frag) (C : Addr) (m : Str) (fa : Addr) (fd : FuncData) (fp : List Str) : Prop where
  at_ : PySem.W.findIn K (.ref C) m = some (some (.ref fa))
  fn : PySem.W.isFn K (.ref fa) = true
  bd : Binds K fd fp []
/-- what operators ask of a class -/
structure OcF (K : PySem.W.Frag) (C : Addr) : Prop where
  sf : PySem.W.selfFirst K C = true
  ne : PySem.W.findIn K (.ref C) "__ne__" = some (some (.builtin "object.__ne__"))
  ho : PySem.W.mroIn K C (.type "object") = some true
  hi : PySem.W.mroIn K C (.type "int") = some false
  c1 : (PySem.W.clsIn K C).isSome = true
/-- .. of int -/
structure FiF (K : PySem.W.Frag) : Prop where
  a1 : PySem.W.findIn K (.type "int") "__add__" = some (some (.builtin "int.__add__"))
  a2 : PySem.W.findIn K (.type "int") "__radd__" = some (some (.builtin "int.__radd__"))
  m1 : PySem.W.findIn K (.type "int") "__mul__" = some (some (.builtin "int.__mul__"))
  m2 : PySem.W.findIn K (.type "int") "__rmul__" = some (some (.builtin "int.__rmul__"))
/-- a static method with a star parameter -/
structure StF (K : PySem.W.Frag) (C : Addr) (m : Str) (fa : Addr) : Prop where
  ty : PySem.W.typeIn K (.ref C) = some (.type "type")
  rd : PySem.W.readsIn K C (.type "type") = true
  ga : PySem.W.specialIn K (.ref C) "__getattribute__" = some (some (.builtin "type.__getattribute__"))
  sm : ∃ p rest, PySem.W.findCls K (.ref C) (.type "type") m = some (.get (.builtin "staticmethod.__get__") (.ref p) .none (.ref C)) ∧ PySem.W.recIn K p "staticmethod" = some (.ref fa :: rest)
  kp : PySem.W.keepIn K (.ref fa) = true
/-- the promise of a def with a star parameter -/
def spSt (g : G) (fi : Fi) (c : List D → C) : Sp := fun vs H Q E => vs.length ≤ sizeLine ∧ ∀ p, H p = none → spOf g fi c [.ref p] (upd H p (.tup vs)) Q E
/-- what is known of the whole text -/
structure Gf (T : Tb) (pg : Pg) (g : G) (q : Q9) (KK n : Nat) (X : Cx) : Prop where
  ok : ∀ f d, pg.defs[f]? = some d → FnOk X.prog X.w X.K X.mg X.base CX0 (3 * n) (q.fa f) (q.fd f) (q.fp f) (spOf g d.fi (pg.callN KK n f))
  bd : ∀ f d, pg.defs[f]? = some d → T.pl.contains f = true → Binds X.K (q.fd f) (q.fp f) []
  nm : ∀ x f, T.fns.lookup x = some f → X.mg x = some (.ref (q.fa f)) ∧ PySem.W.keepIn X.K (.ref (q.fa f)) = true
  cn : ∀ x C, T.cls.lookup x = some C → X.mg x = some (.ref (g.ca C))
  off : ∀ x, T.off.contains x = true → X.mg x = none
  ow : OwnAll g T.nC
  hK : g.K = X.K
  fl : ∀ C, g.cf C = pg.flds.getD C []
  fc : ∀ C, g.cf C ≠ [] → C < T.nC
  na : ∀ C f, C < T.nC → f ∈ g.cf C → NoAttr X.K (g.ca C) f
  kb : ∀ (s : Nat) (h : Sh), pg.sh[s]? = some h → (∃ x, T.fns.lookup x = some h.f) → ∃ gU, KBn X.K (q.fd h.f) (q.fp h.f) h.np h.ks gU fun vs zs => pickV h.sel (q.dv h.f) (vs ++ zs)
  ki : ∀ (s : Nat) (h : Sh) (C : Nat), pg.sh[s]? = some h → pg.init[C]? = some h.f → C < T.nC → ∃ gU, KBn X.K (q.fd h.f) (q.fp h.f) (h.np + 1) h.ks gU fun vs zs => vs.headD .non :: pickV h.sel (q.dv h.f) (vs.tail ++ zs)
  dv : ∀ (s : Nat) (h : Sh) (j : Nat) (d : D), pg.sh[s]? = some h → Sum.inr (j, d) ∈ h.sel → ∀ F H, Rep g F H (q.dv h.f j) d
  mkc : ∀ C f, C < T.nC → pg.init[C]? = some f → Mk X.K (g.ca C) (q.fa f)
  mt : ∀ C m f, (pg.meths.getD C []).lookup m = some f → OwT X.K (g.ca C) m (q.fa f) (q.fd f) (q.fp f) ∧ C < T.nC ∧ ∃ d0, pg.defs[f]? = some d0 ∧ ∀ k ∈ d0.fi.kd, k = .n
  oc : ∀ C m f, (pg.meths.getD C []).lookup m = some f → OcF X.K (g.ca C) ∧ FiF X.K
  sr : ∀ C m f, (pg.stats.getD C []).lookup m = some f → StF X.K (g.ca C) m (q.fa f) ∧ ∃ d0, pg.defs[f]? = some d0 ∧ (∀ k ∈ d0.fi.kd, k = .n) ∧ FnR X.prog X.w X.K X.mg X.base CX0 (3 * n) (q.fa f) (spSt g d0.fi (pg.callN KK n f))
structure XO (T : Tb) (pg : Pg) (g : G) (q : Q9) (KK n : Nat) (B : Bl) (sc : Scope) (X : Cx) : Prop where
  gf : Gf T pg g q KK n X
  N : X.N = B.N
  nd : B.N.Nodup
  sc : X.env.scope = sc
  calm : X.calm = true
  room : Room (3 * n + 2) X.A
section
variable {T : Tb} {pg : Pg} {g : G} {q : Q9} {KK n : Nat} {B : Bl} {sc : Scope} {X : Cx} {p : Pr} {mk : Nat → Kd}
theorem vis_of {x : Str} (h : isV sc x = true) : Vis sc x := by
  unfold isV at h
  split at h <;> first | (cases h; done) | skip
  · exact .inl (by assumption)
  · exact .inr (.inl (by assumption))
  · exact .inr (.inr (by assumption))
theorem gl_of (x : XO T pg g q KK n B sc X) {y : Str} (h : isG sc y = true) : Gl X y := by
  unfold Gl Env.kindOf
  rw [x.sc]
  unfold isG at h
  split at h
  · assumption
  · cases h
theorem okN_of {x : Str} (h : okN x = true) : (x == ("__debug__" : Str)) = false ∧ (x == ("__classdict__" : Str)) = false ∧ x ≠ "__name__" := by
  unfold okN at h
  simp only [Bool.and_eq_true, Bool.not_eq_true', beq_eq_false_iff_ne] at h
  exact ⟨by simpa using h.1.1, by simpa using h.1.2, h.2⟩
theorem nsp_of {N : List Str} {i : Nat} {x : Str} (h : nsp N i x = true) : N[i]? = some x := by
  unfold nsp at h
  split at h
  · rename_i y hy
    rw [hy, beq_iff_eq.mp h]
  · cases h
/-- a name that stands in a slot -/
theorem l_name (x : XO T pg g q KK n B sc X) {i : Nat} {y : Str} {pos : Pos} (h1 : nsp B.N i y = true) (h2 : isV sc y = true) (h3 : okN y = true) : PE X (.Name y pos) (tVar i) := by
  obtain ⟨d1, d2, _⟩ := okN_of h3
  exact pe_var (by rw [x.N]; exact nsp_of h1) (by rw [x.sc]; exact vis_of h2) d1 d2
theorem l_v (x : XO T pg g q KK n B sc X) {i : Nat} {y : Str} {pos : Pos} (h1 : nsp B.N i y = true) (h2 : isV sc y = true) (h3 : okN y = true) (hk : mk i = .n) : PE X (.Name y pos) (rdE false g mk (evE p (.v i))) := by
  refine PE.weak (l_name x h1 h2 h3) fun σ H Q h => ?_
  obtain ⟨F, e, en, h⟩ := h
  simp only [evE] at h
  cases hg : get e i with
  | none => rw [hg] at h; exact h.elim
  | some d =>
    rw [hg] at h
    obtain ⟨v, hv, r⟩ := en.n i d hk hg
    exact ⟨v, hv, h F H v (.refl en) r⟩
theorem l_k {d : D} {c : Const} {j : Nat} {pos : Pos} (h : kOk d c = true) : PE X (.Constant c j pos) (rdE true g mk (evE p (.k d))) := by
  have key : ∀ {v : V}, PE X (.Constant c j pos) (tC v) → (∀ F H, Rep g F H v d) → d.isM = false → PE X (.Constant c j pos) (rdE true g mk (evE p (.k d))) := fun {v} hp hr hm => by
    refine PE.weak hp fun σ H Q h => ?_
    obtain ⟨F, e, en, h⟩ := h
    simp only [evE] at h
    exact h F H v (.refl en) (by unfold RV; rw [hm]; exact hr F H)
  cases d <;> cases c <;> first | (cases h; done) | skip
  case non.none => exact key pe_non (fun _ _ => .non) rfl
  case bl.bool a b =>
    have e : a = b := beq_iff_eq.mp h
    subst e; exact key pe_bl (fun _ _ => .bl _) rfl
  case int.int a b =>
    have e : a = b := beq_iff_eq.mp h
    subst e; exact key pe_int (fun _ _ => .int _) rfl
  case str.str a b =>
    have e : tx a = b := by rw [← beq_iff_eq.mp h, tx_of]
    subst e; exact key pe_str (fun _ _ => .str _) rfl
/-! ### operands -/
inductive Ops (X : Cx) (g : G) (mk : Nat → Kd) (p : Pr) : List E → List Expr → Prop
  | nil : Ops X g mk p [] []
  | cons {c : E} {e : Expr} {cs : List E} {es : List Expr} : PE X e (rdO g mk p c) → nst e = true → Ops X g mk p cs es → Ops X g mk p (c :: cs) (e :: es)
theorem star_ns {e : Expr} (h : nst e = true) (es : List Expr) (env : Env) : starEach (e :: es) env = (false, eval e env) :: starEach es env := by
  cases e <;> first | rfl | (cases h)
theorem Ops.plain : ∀ {cs : List E} {es : List Expr} (pos : Pos), Ops X g mk p cs es → (backTo pos (starEach es X.env)).any (·.1) = false
  | _, _, _, .nil => rfl
  | _, _, pos, .cons (e := e) (es := es) _ hn o => by
    rw [star_ns hn]
    show (false || (backTo pos (starEach es X.env)).any (·.1)) = false
    rw [o.plain pos]; rfl
theorem Ops.all : ∀ {cs : List E} {es : List Expr} (pos : Pos), Ops X g mk p cs es → (backTo pos (starEach es X.env)).all (fun x => !x.1) = true
  | _, _, _, .nil => rfl
  | _, _, pos, .cons (e := e) (es := es) _ hn o => by
    rw [star_ns hn]
    show (true && (backTo pos (starEach es X.env)).all (fun x => !x.1)) = true
    rw [o.all pos]; rfl
theorem Ops.pa : ∀ {cs : List E} {es : List Expr}, Ops X g mk p cs es → PA X es (rdOs g mk p cs)
  | _, _, .nil => pa_nil
  | _, _, .cons h hn o => pa_cons h o.pa (star_ns hn _ _)
theorem Ops.two {cs : List E} {l r : Expr} (o : Ops X g mk p cs [l, r]) : ∃ a b, cs = [a, b] ∧ PE X l (rdO g mk p a) ∧ PE X r (rdO g mk p b) := by
  cases o with
  | cons h1 _ o =>
    cases o with
    | cons h2 _ o => cases o; exact ⟨_, _, rfl, h1, h2⟩
theorem Ops.one {cs : List E} {l : Expr} (o : Ops X g mk p cs [l]) : ∃ a, cs = [a] ∧ PE X l (rdO g mk p a) := by
  cases o with
  | cons h1 _ o => cases o; exact ⟨_, rfl, h1⟩
theorem rdE_mono {fr : Bool} {r : Ev → R D} {σ : L2.St} {H : Hp} {Q Q' : VK} (h : rdE fr g mk r σ H Q) (k : ∀ v H, Q v H → Q' v H) : rdE fr g mk r σ H Q' := by
  obtain ⟨F, e, en, h⟩ := h
  refine ⟨F, e, en, ?_⟩
  cases hr : r e with
  | ok d e' => rw [hr] at h; exact fun F' H' v a x => k v H' (h F' H' v a x)
  | err x e' => rw [hr] at h; exact h
  | bad => rw [hr] at h; exact h
theorem rdO_mono {c : E} {σ : L2.St} {H : Hp} {Q Q' : VK} (h : rdO g mk p c σ H Q) (k : ∀ v H, Q v H → Q' v H) : rdO g mk p c σ H Q' := by
  cases c <;> first
    | exact rdE_mono h k
    | (obtain ⟨v, hv, h⟩ := h; exact ⟨v, hv, k v H h⟩)
theorem pD_bf (b : Bf) (ds : List D) : pD (.bf b) ds = pBf b ds := by cases ds <;> rfl
theorem l_bin {o : P} {op : Operator} {fr : Bool} {f : D → D → Option D} {cs : List E} {l r : Expr} {pos : Pos} (ops : Ops X g mk p cs [l, r]) (h : OpR X (binaryOp op) (rO2 fr g f)) (hf : ∀ a b, pD o [a, b] = f a b) (no : ∀ ds, (∀ x y, ds ≠ [x, y]) → pD o ds = none) :
    PE X (.BinOp l op r pos) (rdE fr g mk (evE p (.op o cs))) := by
  obtain ⟨a, b, rfl, h1, h2⟩ := ops.two
  refine PE.weak (pe_op h h1 h2) fun σ H Q hq => ?_
  have h3 : rdO g mk p a σ H fun x H1 => rdO g mk p b σ H1 fun y H2 => rC fr g (pD o) [x, y] H2 Q := op_use hq
  refine rdO_mono h3 fun x H1 h4 => rdO_mono h4 fun y H2 h5 => ?_
  have h6 := rC_two no h5
  have e : (fun a b => pD o [a, b]) = f := by funext a b; exact hf a b
  rw [e] at h6
  exact h6
theorem l_cmp {o : P} {op : CmpOp} {f : D → D → Option D} {cs : List E} {l r : Expr} {pos : Pos} (ops : Ops X g mk p cs [l, r]) (h : OpR X (compareOp op) (rO2 true g f)) (hm : behindInMarks op r = false) (hf : ∀ a b, pD o [a, b] = f a b) (no : ∀ ds, (∀ x y, ds ≠ [x, y]) → pD o ds = none) :
    PE X (.Compare l [op] [r] pos) (rdE true g mk (evE p (.op o cs))) := by
  obtain ⟨a, b, rfl, h1, h2⟩ := ops.two
  refine PE.weak (pe_cmpR h h1 h2 hm) fun σ H Q hq => ?_
  have h3 : rdO g mk p a σ H fun x H1 => rdO g mk p b σ H1 fun y H2 => rC true g (pD o) [x, y] H2 Q := op_use hq
  refine rdO_mono h3 fun x H1 h4 => rdO_mono h4 fun y H2 h5 => ?_
  have h6 := rC_two no h5
  have e : (fun a b => pD o [a, b]) = f := by funext a b; exact hf a b
  rw [e] at h6
  exact h6
/-- .. as a test: what comes is a truth value -/
theorem l_cmpT {o : P} {op : CmpOp} {f : D → D → Option D} {cs : List E} {l r : Expr} {pos : Pos} (ops : Ops X g mk p cs [l, r]) (h : OpR X (compareOp op) (rO2 true g f)) (hm : behindInMarks op r = false) (hf : ∀ a b, pD o [a, b] = f a b) (no : ∀ ds, (∀ x y, ds ≠ [x, y]) → pD o ds = none)
    (hb : ∀ ds d, pD o ds = some d → ∃ c, d = .bl c) (ht : ∀ e, evT p (.op o cs) e = (evE p (.op o cs) e).bind fun d e1 => .ofO (truth d) e1) :
    PT X (.Compare l [op] [r] pos) (rdT g mk (evT p (.op o cs))) := by
  obtain ⟨a, b, rfl, h1, h2⟩ := ops.two
  refine PT.weak (pt_cmpR h h1 h2 hm) fun σ H Q hq => ?_
  have hq' : rdE true g mk (evE p (.op o [a, b])) σ H fun x H' => ∃ k, x = .bl k ∧ Q k H' := by
    obtain ⟨F, e, en, hq⟩ := hq
    refine ⟨F, e, en, ?_⟩
    rw [ht] at hq
    cases h0 : evE p (.op o [a, b]) e with
    | err x e1 => rw [h0] at hq; exact hq.elim
    | bad => rw [h0] at hq; exact hq.elim
    | ok d e1 =>
      have hd : ∃ c, d = .bl c := by
        simp only [evE] at h0
        obtain ⟨ds, e2, _, h0⟩ := bind_ok h0
        split at h0
        · obtain ⟨h0, _⟩ := ofO_ok h0
          exact hb _ _ h0
        · cases h0
      obtain ⟨c, rfl⟩ := hd
      rw [h0] at hq
      intro F' H' v af r
      have hv : v = .bl c := by
        unfold RV at r
        rw [if_neg (show ¬ (true && (D.bl c).isM) = true by simp [D.isM])] at r
        cases r; rfl
      exact ⟨c, hv, hq F' H' af⟩
  have h3 : rdO g mk p a σ H fun x H1 => rdO g mk p b σ H1 fun y H2 => rC true g (pD o) [x, y] H2 (fun x H' => ∃ k, x = .bl k ∧ Q k H') := op_use hq'
  refine rdO_mono h3 fun x H1 h4 => rdO_mono h4 fun y H2 h5 => ?_
  have h6 := rC_two no h5
  have e : (fun a b => pD o [a, b]) = f := by funext a b; exact hf a b
  rw [e] at h6
  exact h6
end
end TE
/-! Te12: operations of every form. -/
namespace TE
open PySem L2
section
variable {T : Tb} {pg : Pg} {g : G} {q : Q9} {KK n : Nat} {B : Bl} {sc : Scope} {X : Cx} {p : Pr} {mk : Nat → Kd}
theorem no2 {f : List D → Option D} (h0 : f [] = none) (h1 : ∀ a, f [a] = none) (h3 : ∀ a b c t, f (a :: b :: c :: t) = none) : ∀ ds, (∀ x y, ds ≠ [x, y]) → f ds = none := fun ds h => by
  rcases ds with _ | ⟨a, _ | ⟨b, _ | ⟨c, t⟩⟩⟩
  · exact h0
  · exact h1 a
  · exact absurd rfl (h a b)
  · exact h3 a b c t
theorem no1 {f : List D → Option D} (h0 : f [] = none) (h3 : ∀ a b t, f (a :: b :: t) = none) : ∀ ds, (∀ x, ds ≠ [x]) → f ds = none := fun ds h => by
  rcases ds with _ | ⟨a, _ | ⟨b, t⟩⟩
  · exact h0
  · exact absurd rfl (h a)
  · exact h3 a b t
theorem hu64 (x : XO T pg g q KK n B sc X) : X.A.units + 65 < cLine := by have := x.room.un; omega
theorem gname_of (x : XO T pg g q KK n B sc X) {y : Str} (h : gname T sc y = true) : Gl X y ∧ X.mg y = none ∧ y ≠ "__name__" ∧ (y == ("__debug__" : Str)) = false := by
  unfold gname at h
  simp only [Bool.and_eq_true] at h
  exact ⟨gl_of x h.1.1, x.gf.off y h.1.2, (okN_of h.2).2.2, (okN_of h.2).1⟩
/-- a built-in function -/
theorem l_bf {b : Bf} {id : String} {x : Str} {e : Expr} {es : List Expr} {px pos : Pos} {cs : List E} (X0 : XO T pg g q KK n B sc X) (hx : gname T sc x = true) (ops : Ops X g mk p cs (e :: es)) (h : CallR X (.builtin id) (rC true g (pBf b))) (hv : bootBuiltins x = some (.builtin id)) :
    PE X (.Call (.Name x px) (e :: es) [] pos) (rdE true g mk (evE p (.op (.bf b) cs))) := by
  obtain ⟨h1, h2, h3, h4⟩ := gname_of X0 hx
  have hs : starEach (e :: es) X.env = (false, eval e X.env) :: starEach es X.env := by cases ops with | cons _ hn _ => exact star_ns hn _ _
  have hp : (backTo pos (starEach es X.env)).any (·.1) = false := by cases ops with | cons _ _ o => exact o.plain pos
  refine PE.weak (pe_callB h h1 h2 hv ops.pa h3 h4 hs hp) fun σ H Q hq => ?_
  have e1 : pD (.bf b) = pBf b := by funext ds; exact pD_bf b ds
  have := op_use hq
  rw [e1] at this
  exact this
theorem l_bfT {b : Bf} {id : String} {x : Str} {e : Expr} {es : List Expr} {px pos : Pos} {cs : List E} (X0 : XO T pg g q KK n B sc X) (hx : gname T sc x = true) (ops : Ops X g mk p cs (e :: es)) (h : CallR X (.type id) (rC true g (pBf b))) (hv : bootBuiltins x = some (.type id)) :
    PE X (.Call (.Name x px) (e :: es) [] pos) (rdE true g mk (evE p (.op (.bf b) cs))) := by
  obtain ⟨h1, h2, h3, h4⟩ := gname_of X0 hx
  have hs : starEach (e :: es) X.env = (false, eval e X.env) :: starEach es X.env := by cases ops with | cons _ hn _ => exact star_ns hn _ _
  have hp : (backTo pos (starEach es X.env)).any (·.1) = false := by cases ops with | cons _ _ o => exact o.plain pos
  refine PE.weak (pe_callTy h h1 h2 hv ops.pa h3 h4 hs hp) fun σ H Q hq => ?_
  have e1 : pD (.bf b) = pBf b := by funext ds; exact pD_bf b ds
  have := op_use hq
  rw [e1] at this
  exact this
theorem l_idx {a s : Expr} {pos : Pos} {cs : List E} (X0 : XO T pg g q KK n B sc X) (hs : plainIx s = true) (ops : Ops X g mk p cs [a, s]) : PE X (.Subscript a s pos) (rdE false g mk (evE p (.op .idx cs))) := by
  obtain ⟨c, d, rfl, h1, h2⟩ := ops.two
  refine PE.weak (pe_ix (i_idx X0.gf.hK) h1 h2 (fun o i => by cases s <;> first | rfl | (cases hs))) fun σ H Q hq => ?_
  have h3 : rdO g mk p c σ H fun x H1 => rdO g mk p d σ H1 fun y H2 => rC false g (pD .idx) [x, y] H2 Q := op_use hq
  exact rdO_mono h3 fun x H1 h4 => rdO_mono h4 fun y H2 h5 => rC_two (no2 rfl (fun _ => rfl) fun _ _ _ _ => rfl) h5
theorem l_neg {a : Expr} {pos : Pos} {cs : List E} (ops : Ops X g mk p cs [a]) : PE X (.UnaryOp .USub a pos) (rdE true g mk (evE p (.op .neg cs))) := by
  obtain ⟨c, rfl, h1⟩ := ops.one
  refine PE.weak (pe_un (o_neg (g := g)) h1) fun σ H Q hq => ?_
  have h3 : rdO g mk p c σ H fun x H1 => rC true g (pD .neg) [x] H1 Q := op_use hq
  exact rdO_mono h3 fun x H1 h4 => rC_one (no1 rfl fun a _ _ => by cases a <;> rfl) h4
theorem RR.isN {F : Addr → Prop} {H : Hp} {x : V} {a : D} (r : RR g F H x a) : decide (x = V.non) = isNonD a := by
  cases a with
  | non => have e := r.non; subst e; rfl
  | _ =>
    refine decide_eq_false fun e => ?_
    subst e
    rcases r with r | ⟨p, h, _⟩
    · cases r
    · cases h
theorem l_isN {a : Expr} {j : Nat} {pos pos' : Pos} {cs : List E} (ops : Ops X g mk p cs [a]) : PE X (.Compare a [.Is] [.Constant .none j pos'] pos) (rdE true g mk (evE p (.op .isN cs))) := by
  obtain ⟨c, rfl, h1⟩ := ops.one
  refine PE.weak (pe_cmp (pc_isN h1)) fun σ H Q hq => ?_
  have h3 : rdO g mk p c σ H fun x H1 => rC true g (pD .isN) [x] H1 Q := op_use hq
  refine rdO_mono h3 fun x H1 h4 => ?_
  obtain ⟨F, a, d, fd, r, e, k⟩ := rC_one (no1 rfl fun a _ _ => rfl) h4
  cases e
  show Q (.bl (decide (x = .non))) H1
  rw [r.isN]
  exact post_now fd k (.bl _) rfl
theorem l_noN {a : Expr} {j : Nat} {pos pos' : Pos} {cs : List E} (ops : Ops X g mk p cs [a]) : PE X (.Compare a [.IsNot] [.Constant .none j pos'] pos) (rdE true g mk (evE p (.op .noN cs))) := by
  obtain ⟨c, rfl, h1⟩ := ops.one
  refine PE.weak (pe_cmp (pc_notN h1)) fun σ H Q hq => ?_
  have h3 : rdO g mk p c σ H fun x H1 => rC true g (pD .noN) [x] H1 Q := op_use hq
  refine rdO_mono h3 fun x H1 h4 => ?_
  obtain ⟨F, a, d, fd, r, e, k⟩ := rC_one (no1 rfl fun a _ _ => rfl) h4
  cases e
  show Q (.bl (!decide (x = .non))) H1
  rw [r.isN]
  exact post_now fd k (.bl _) rfl
/-- as a test: a value that is a truth value -/
theorem tB_of {c : E} {o : P} {cs : List E} {σ : L2.St} {H : Hp} {Q : Bool → Hp → Prop} (hb : ∀ ds d, pD o ds = some d → ∃ c, d = .bl c) (hq : rdT g mk (evT p (.op o cs)) σ H Q) : rdE true g mk (evE p (.op o cs)) σ H fun x H' => ∃ k, x = .bl k ∧ Q k H' := by
  obtain ⟨F, e, en, hq⟩ := hq
  refine ⟨F, e, en, ?_⟩
  have ht : evT p (.op o cs) e = (evE p (.op o cs) e).bind fun d e1 => .ofO (truth d) e1 := by simp only [evT]
  rw [ht] at hq
  cases h0 : evE p (.op o cs) e with
  | err x e1 => rw [h0] at hq; exact hq.elim
  | bad => rw [h0] at hq; exact hq.elim
  | ok d e1 =>
    have hd : ∃ c, d = .bl c := by
      simp only [evE] at h0
      obtain ⟨ds, e2, _, h0⟩ := bind_ok h0
      split at h0
      · obtain ⟨h0, _⟩ := ofO_ok h0
        exact hb _ _ h0
      · cases h0
    obtain ⟨c, rfl⟩ := hd
    rw [h0] at hq
    intro F' H' v af r
    have hv : v = .bl c := by
      unfold RV at r
      rw [if_neg (show ¬ (true && (D.bl c).isM) = true by simp [D.isM])] at r
      cases r; rfl
    exact ⟨c, hv, hq F' H' af⟩
theorem bl?_bl {o : Option Bool} {d : D} (h : bl? o = some d) : ∃ c, d = .bl c := by
  obtain ⟨c, _, rfl⟩ := Option.map_eq_some_iff.mp h
  exact ⟨c, rfl⟩
theorem sup_of {o : Expr} {m : Str} {env : Env} (hn : nosup o = true) : attributeBase o m env (eval o env) = eval o env := by
  cases o <;> first | rfl | skip
  rename_i f as ks pos
  cases f <;> first | rfl | skip
  cases as <;> first | rfl | skip
  cases ks <;> first | rfl | skip
  cases hn
theorem post_of {fr : Bool} {F F1 : Addr → Prop} {H H1 : Hp} {σ : L2.St} {e e1 : Ev} {d : D} {Q : VK} (a : Aft g mk F H σ e F1 H1 e1) (h : GoodE fr g mk F H σ e Q (.ok d e1)) : PostV fr g F1 H1 d Q := fun F2 H2 v s r => by
  refine h F2 H2 v (a.trans (.add a.en s)) ?_
  unfold RV at r ⊢
  split
  · rename_i hc
    rw [if_pos hc] at r
    obtain ⟨q, e1, hn, nf, ro⟩ := r
    exact ⟨q, e1, a.st.fresh hn, nf, ro⟩
  · rename_i hc
    rw [if_neg hc] at r
    exact r
/-- a method of a text -/
theorem l_met {m : Mt} {id : String} {name : Str} {o e : Expr} {es : List Expr} {apos cpos : Pos} {c : E} {cs : List E} {fr fr' : Bool} (hn : nosup o = true) (hl : (apos.endLine == cpos.line) = true) (hz : es.length < 20) (ho : PE X o (rdE fr' g mk (evE p c))) (ops : Ops X g mk p cs (e :: es))
    (hs : ∀ d ds z, pMt m d ds = some z → ∃ s, d = .str s) (slot : Slot "str" name id) (hty : typeOf (.builtin id) = pure (.type "method_descriptor")) (hm : MtR X id (rM fr g (pMt m))) :
    PE X (.Call (.Attribute o name apos) (e :: es) [] cpos) (rdE fr g mk (evE p (.met m c cs))) := by
  have hs1 : starEach (e :: es) X.env = (false, eval e X.env) :: starEach es X.env := by cases ops with | cons _ hn _ => exact star_ns hn _ _
  have hp : (backTo cpos (starEach es X.env)).any (·.1) = false := by cases ops with | cons _ _ o => exact o.plain cpos
  refine PE.weak (pe_bm PySem.F.plainAttrs_str slot hty hm ho ops.pa (sup_of hn) ?_ hl hs1 hp) fun σ H Q hq => ?_
  · rw [ops.all cpos]
    have : (e :: es).length + ([] : List Keyword).length + (if ([] : List Keyword).isEmpty then 0 else 1) < 30 := by
      show es.length + 1 + 0 + 0 < 30
      omega
    rw [decide_eq_true this]; rfl
  · obtain ⟨F, en, r, hq⟩ := hq
    simp only [evE] at hq
    cases h1 : evE p c en with
    | err x e1 => rw [h1] at hq; exact hq.elim
    | bad => rw [h1] at hq; exact hq.elim
    | ok d e1 =>
      rw [h1] at hq
      simp only [R.bind] at hq
      cases h2 : evEs p cs e1 with
      | err x e2 => rw [h2] at hq; exact hq.elim
      | bad => rw [h2] at hq; exact hq.elim
      | ok ds e2 =>
        rw [h2] at hq
        simp only at hq
        cases h3 : late cs ds e2 with
        | none => rw [h3] at hq; exact hq.elim
        | some ds' =>
          rw [h3] at hq
          simp only at hq
          cases h4 : pMt m d ds' with
          | none => rw [h4] at hq; exact hq.elim
          | some z =>
            rw [h4] at hq
            obtain ⟨t, rfl⟩ := hs d ds' z h4
            refine use r ⟨_, _, h1, fun F1 H1 v a rv => ⟨?_, ops_use a.en h2 fun F2 H2 vs b ar => ?_⟩⟩
            · cases rv; rfl
            · exact ⟨F2, _, ds', z, b.en.fd, .inl (rv.stp a.en.mok b.st), ar.rrs b.en h3, h4, post_of (a.trans b) hq⟩
end
end TE
/-! Te13: slices, isinstance, displays, and | or | not, conditional expressions, chains, fields. -/
namespace TE
open PySem L2
section
variable {T : Tb} {pg : Pg} {g : G} {q : Q9} {KK n : Nat} {B : Bl} {sc : Scope} {X : Cx} {p : Pr} {mk : Nat → Kd}
/-! ### slices -/
inductive OptE (X : Cx) (g : G) (mk : Nat → Kd) (p : Pr) : List E → Option Expr → Prop
  | none : OptE X g mk p [] none
  | some {c : E} {e : Expr} {fr : Bool} : PE X e (rdE fr g mk (evE p c)) → OptE X g mk p [c] (some e)
theorem l_sl {c : E} {lo hi : List E} {x : Expr} {l h : Option Expr} {p2 pos : Pos} (X0 : XO T pg g q KK n B sc X) (hx : PE X x (rdO g mk p c)) (hl : OptE X g mk p lo l) (hh : OptE X g mk p hi h) :
    PE X (.Subscript x (.Slice l h none p2) pos) (rdE true g mk (evE p (.sl c lo hi))) := by
  have po : ∀ {lo : List E} {l : Option Expr}, OptE X g mk p lo l → ∃ t : TO, PO X l t ∧ ∀ (σ : L2.St) (F : Addr → Prop) (H : Hp) (e e1 : Ev) (i : Option Int) (Q : Option Int → Hp → Prop), REnv g mk F H σ e → evO p lo e = .ok i e1 → (∀ F1 H1, Aft g mk F H σ e F1 H1 e1 → Q i H1) → t σ H Q := by
    intro lo l o
    cases o with
    | none =>
      refine ⟨_, po_none, fun σ F H e e1 i Q en h k => ?_⟩
      simp only [evO] at h
      cases h
      exact k F H (.refl en)
    | @some c e fr he =>
      refine ⟨_, po_some he, fun σ F H e e1 i Q en h k => ?_⟩
      simp only [evO] at h
      obtain ⟨d, e2, h1, h⟩ := bind_ok h
      cases d <;> first | (cases h; done) | skip
      case int j =>
        cases h
        refine use en ⟨_, _, h1, fun F1 H1 v a r => ⟨j, ?_, k F1 H1 a⟩⟩
        cases r; rfl
  obtain ⟨t1, p1, u1⟩ := po hl
  obtain ⟨t2, p2', u2⟩ := po hh
  refine PE.weak (pe_slice (s_slice X0.gf.hK) hx p1 p2') fun σ H Q hq => ?_
  obtain ⟨F, e, en, hq⟩ := hq
  simp only [evE] at hq
  cases h1 : evE p c e with
  | err x e1 => rw [h1] at hq; exact hq.elim
  | bad => rw [h1] at hq; exact hq.elim
  | ok d e1 =>
    rw [h1] at hq
    simp only [R.bind] at hq
    cases h2 : evO p lo e1 with
    | err x e2 => rw [h2] at hq; exact hq.elim
    | bad => rw [h2] at hq; exact hq.elim
    | ok l e2 =>
      rw [h2] at hq
      simp only at hq
      cases h3 : evO p hi e2 with
      | err x e2 => rw [h3] at hq; exact hq.elim
      | bad => rw [h3] at hq; exact hq.elim
      | ok h e3 =>
        rw [h3] at hq
        simp only at hq
        cases h4 : late [c] [d] e3 with
        | none => rw [h4] at hq; exact hq.elim
        | some ds =>
          rw [h4] at hq
          rcases ds with _ | ⟨d', _ | ⟨y, t⟩⟩
          · exact hq.elim
          · simp only at hq
            cases h5 : pSl d' l h with
            | none => rw [h5] at hq; exact hq.elim
            | some z =>
              rw [h5] at hq
              have h6 : evEs p [c] e = .ok [d] e1 := by simp only [evEs, h1, R.bind]
              have := ops_use (Q := fun vs H1 => ∀ x, vs = [x] → t1 σ H1 fun l H2 => t2 σ H2 fun u H3 => ∃ F d1 d, FD F H3 ∧ RR g F H3 x d1 ∧ pSl d1 l u = some d ∧ PostV true g F H3 d Q) en h6 fun F1 H1 vs a ar x hx => by
                subst hx
                refine u1 σ F1 H1 e1 e2 l _ a.en h2 fun F2 H2 b => u2 σ F2 H2 e2 e3 h _ b.en h3 fun F3 H3 c' => ?_
                have ar' := (ar.stp a.en.mok b.st).stp b.en.mok c'.st
                have rr := ar'.rrs c'.en h4
                obtain ⟨v, ev, r⟩ := rr.one
                cases ev
                exact ⟨F3, d', z, c'.en.fd, r, h5, post_of ((a.trans b).trans c') hq⟩
              exact rdO_mono (show rdO g mk p c σ H fun x H1 => ∀ x', [x] = [x'] → _ from this) fun x H1 hk => hk x rfl
          · exact hq.elim
/-! ### isinstance -/
theorem l_cn (X0 : XO T pg g q KK n B sc X) {c : Cl} {e : Expr} (h : isCN T sc c e = true) : PE X e (tC (clV g c)) ∧ nst e = true := by
  cases c with
  | ty t =>
    cases e <;> first | (cases t <;> (cases h; done)) | skip
    rename_i x pos
    cases t <;> first | (cases h; done) | skip
    all_goals
      simp only [isCN, Bool.and_eq_true, beq_iff_eq] at h
      obtain ⟨rfl, h⟩ := h
      obtain ⟨h1, h2, h3, h4⟩ := gname_of X0 h
      exact ⟨pe_bltn h1 h2 (by decide +kernel) rfl h3 h4, rfl⟩
  | own C =>
    cases e <;> first | (cases h; done) | skip
    rename_i x pos
    simp only [isCN, Bool.and_eq_true] at h
    obtain ⟨⟨⟨h1, h2⟩, h3⟩, h4⟩ := h
    refine ⟨pe_glob (gl_of X0 h1) (X0.gf.cn x C ?_) rfl (okN_of h2).1, rfl⟩
    split at h3
    · rename_i C' hC
      rw [hC, beq_iff_eq.mp h3]
    · cases h3
theorem isi_one (X0 : XO T pg g q KK n B sc X) {m : Nat} {cs : List Cl} {x : V} {H : Hp} {Q : VK} (hn : m ≤ T.nC) (hc : cs.all (clOk m) = true) (h : rC true g (pD (.isi m cs)) [x] H Q) :
    ∃ t, TyX X.K H x t ∧ PySem.W.kitAny X.K t (cs.map (clU g)) = some (cs.any fun c => PySem.W.kitOne X.K t (clU g c) == some true) ∧ ∃ F, FD F H ∧ (∀ c ∈ cs, ∃ b, PySem.W.kitOne X.K t (clU g c) = some b) ∧ PostV true g F H (.bl (cs.any fun c => PySem.W.kitOne X.K t (clU g c) == some true)) Q := by
  obtain ⟨F, a, d, fd, r, e, k⟩ := rC_one (f := pD (.isi m cs)) (no1 rfl fun a _ _ => rfl) h
  obtain ⟨t, ht, e⟩ := Option.bind_eq_some_iff.mp (show (tyD a).bind _ = some d from e)
  obtain ⟨h1, rfl⟩ := ite_some e
  have up : ∀ c : Cl, clOk m c = true → clOk T.nC c = true := fun c h => by
    cases c with
    | ty _ => rfl
    | own C => exact decide_eq_true (Nat.lt_of_lt_of_le (of_decide_eq_true h) hn)
  have hK := X0.gf.hK
  have ow := X0.gf.ow
  have key : ∀ c ∈ cs, PySem.W.kitOne X.K (clU g t) (clU g c) = some (isC a c) := fun c hcc => by
    rw [← hK]
    exact kit_one ow ht (up t h1) (up c (List.all_eq_true.mp hc c hcc))
  have e2 : (cs.any fun c => PySem.W.kitOne X.K (clU g t) (clU g c) == some true) = cs.any (isC a) := by
    rw [Bool.eq_iff_iff, List.any_eq_true, List.any_eq_true]
    constructor
    · rintro ⟨c, hm, hx⟩
      refine ⟨c, hm, ?_⟩
      rw [key c hm] at hx
      simpa using hx
    · rintro ⟨c, hm, hx⟩
      refine ⟨c, hm, ?_⟩
      rw [key c hm, hx]; rfl
  refine ⟨clU g t, tyX hK ow r ht (fun C hC => by subst hC; exact of_decide_eq_true (up _ h1)), ?_, F, fd, fun c hm => ⟨_, key c hm⟩, by rw [e2]; exact k⟩
  rw [e2, ← hK]
  exact kit_any ow ht (up t h1) cs (List.all_eq_true.mpr fun c hm => up c (List.all_eq_true.mp hc c hm))
theorem l_isi1 (X0 : XO T pg g q KK n B sc X) {m : Nat} {c : Cl} {x : Str} {e cx : Expr} {px pos : Pos} {cs : List E} (hn : m ≤ T.nC) (hc : clOk m c = true) (hx : gname T sc x = true) (hv : x = "isinstance") (hcx : isCN T sc c cx = true) (he : nst e = true) (ops : Ops X g mk p cs [e]) :
    PE X (.Call (.Name x px) [e, cx] [] pos) (rdE true g mk (evE p (.op (.isi m [c]) cs))) := by
  subst hv
  obtain ⟨a, rfl, h1⟩ := ops.one
  obtain ⟨h2, hns⟩ := l_cn X0 hcx
  obtain ⟨g1, g2, g3, g4⟩ := gname_of X0 hx
  have o2 : PA X [e, cx] (tCons (rdO g mk p a) (tCons (tC (clV g c)) tNil)) := pa_cons h1 (pa_cons h2 pa_nil (star_ns hns _ _)) (star_ns he _ _)
  refine PE.weak (pe_callB call_isi g1 g2 (by decide +kernel) o2 g3 g4 (star_ns he _ _) ?_) fun σ H Q hq => ?_
  · rw [star_ns hns]; rfl
  · have h3 : rdO g mk p a σ H fun x H1 => rC true g (pD (.isi m [c])) [x] H1 Q := op_use hq
    refine rdO_mono h3 fun x H1 h4 => ?_
    obtain ⟨t, ty, hk, F, fd, hb, k⟩ := isi_one X0 hn (by simpa using hc) h4
    obtain ⟨b, hb⟩ := hb c (by simp)
    refine ⟨x, clV g c, t, clU g c, b, rfl, clV_ok c, ty, hb, ?_⟩
    have := post_now fd k (.bl _) rfl
    simp only [List.any_cons, List.any_nil, Bool.or_false, hb] at this
    cases b <;> exact this
theorem l_cns (X0 : XO T pg g q KK n B sc X) : ∀ {cs : List Cl} {es : List Expr}, all2 (isCN T sc) cs es = true → PA X es (fun _ H Q => Q (cs.map (clV g)) H) ∧ ∀ pos, (backTo pos (starEach es X.env)).any (·.1) = false
  | [], [], _ => ⟨pa_nil, fun _ => rfl⟩
  | c :: cs, e :: es, h => by
    simp only [all2, Bool.and_eq_true] at h
    obtain ⟨h1, hns⟩ := l_cn X0 h.1
    obtain ⟨h2, h3⟩ := l_cns X0 h.2
    refine ⟨pa_cons h1 h2 (star_ns hns _ _), fun pos => ?_⟩
    rw [star_ns hns]
    exact h3 pos
  | [], _ :: _, h => by cases h
  | _ :: _, [], h => by cases h
theorem l_isi (X0 : XO T pg g q KK n B sc X) {m : Nat} {ks : List Cl} {x : Str} {e : Expr} {xs : List Expr} {j : Nat} {px pt pos : Pos} {cs : List E} (hn : m ≤ T.nC) (hc : ks.all (clOk m) = true) (hz : ks.length ≤ 20) (hx : gname T sc x = true) (hv : x = "isinstance") (hcx : all2 (isCN T sc) ks xs = true) (he : nst e = true) (ops : Ops X g mk p cs [e]) :
    PE X (.Call (.Name x px) [e, .Tuple xs j pt] [] pos) (rdE true g mk (evE p (.op (.isi m ks) cs))) := by
  subst hv
  obtain ⟨a, rfl, h1⟩ := ops.one
  obtain ⟨h2, _⟩ := l_cns (g := g) X0 hcx
  obtain ⟨g1, g2, g3, g4⟩ := gname_of X0 hx
  have o2 : PA X [e, .Tuple xs j pt] (tCons (rdO g mk p a) (tCons (tTup fun _ H Q => Q (ks.map (clV g)) H) tNil)) := pa_cons h1 (pa_cons (pe_tup h2) pa_nil) (star_ns he _ _)
  refine PE.weak (pe_callB call_isiT g1 g2 (by decide +kernel) o2 g3 g4 (star_ns he _ _) rfl) fun σ H Q hq => ?_
  have h3 : rdO g mk p a σ H fun x H1 => rC true g (pD (.isi m ks)) [x] H1 Q := op_use hq
  refine rdO_mono h3 fun x H1 h4 => ⟨?_, fun tp hp => ?_⟩
  · rw [List.length_map]; exact Nat.le_trans hz (by decide)
  · obtain ⟨t, ty, hk, F, fd, hb, k⟩ := isi_one X0 hn hc h4
    have h5 : TyX X.K (upd H1 tp (.tup (ks.map (clV g)))) x t := by
      have kp : ∀ b o, H1 b = some o → upd H1 tp (.tup (ks.map (clV g))) b = some o := fun b o e => by rw [upd_ne (ne_of_none e hp)]; exact e
      cases ty with
      | base b =>
        refine .base ?_
        cases b with
        | non => exact .non
        | bl x => exact .bl x
        | int x => exact .int x
        | str x => exact .str x
        | flt x => exact .flt x
        | lst e => exact .lst (kp _ _ e)
        | frz e => exact .frz (kp _ _ e)
        | tup e => exact .tup (kp _ _ e)
        | dK e => exact .dK (kp _ _ e)
        | dT e => exact .dT (kp _ _ e)
        | ins e a b c d f => exact .ins (kp _ _ e) a b c d f
      | byt b => exact .byt b
      | set e => exact .set (kp _ _ e)
      | kList a b => exact .kList a b
      | kTuple a b => exact .kTuple a b
      | kDict a b => exact .kDict a b
      | fTuple e => exact .fTuple (kp _ _ e)
      | fDict e => exact .fDict (kp _ _ e)
    have pr : ∀ ks : List Cl, Paired ClsV (ks.map (clV g)) (ks.map (clU g)) := fun ks => by
      induction ks with
      | nil => exact .nil
      | cons c ks ih => exact .cons (clV_ok c) ih
    refine ⟨x, tp, ks.map (clV g), t, ks.map (clU g), _, rfl, upd_same, pr ks, h5, hk, ?_⟩
    exact k F _ _ (stp_new fd hp) (by
      unfold RV
      rw [if_neg (by simp [D.isM])]
      exact .bl _)
end
end TE
/-! Te14: displays, and | or | not, conditional expressions, chains, fields. -/
namespace TE
open PySem L2
section
variable {T : Tb} {pg : Pg} {g : G} {q : Q9} {KK n : Nat} {B : Bl} {sc : Scope} {X : Cx} {p : Pr} {mk : Nat → Kd}
/-- names among the operands are plain -/
def NK (mk : Nat → Kd) (cs : List E) : Prop := ∀ i, E.v i ∈ cs → mk i = .n
theorem AR.reps {F : Addr → Prop} {H : Hp} {σ : L2.St} {e : Ev} (r : REnv g mk F H σ e) : ∀ {es : List E} {vs : List V} {ds ds' : List D}, AR g F H σ es vs ds → late es ds e = some ds' → NK mk es → Reps g F H vs ds'
  | _, _, _, _, .nil, h, _ => by
    cases h; exact .nil
  | _, _, _, _, .slot (i := i) hv a, h, nk => by
    simp only [late] at h
    obtain ⟨d, hd, h⟩ := Option.bind_eq_some_iff.mp h
    obtain ⟨ds2, h2, rfl⟩ := Option.map_eq_some_iff.mp h
    obtain ⟨w, hw, x⟩ := r.n i d (nk i List.mem_cons_self) hd
    rw [hv] at hw; cases hw
    exact .cons x (AR.reps r a h2 fun j hj => nk j (List.mem_cons_of_mem _ hj))
  | c :: es, _, _, _, .val hn hr a, h, nk => by
    have e1 : ∀ d ds, late (c :: es) (d :: ds) e = (late es ds e).map (d :: ·) := fun d ds => by
      cases c <;> first | rfl | exact absurd rfl (hn _)
    rw [e1] at h
    obtain ⟨ds2, h2, rfl⟩ := Option.map_eq_some_iff.mp h
    exact .cons hr (AR.reps r a h2 fun j hj => nk j (List.mem_cons_of_mem _ hj))
/-- operands that go into data -/
theorem op_plain {o : P} {cs : List E} {fr : Bool} {σ : L2.St} {H : Hp} {Q : VK} (nk : NK mk cs) (h : rdE fr g mk (evE p (.op o cs)) σ H Q) : rdOs g mk p cs σ H fun vs H1 => ∃ F ds d, FD F H1 ∧ Reps g F H1 vs ds ∧ pD o ds = some d ∧ PostV fr g F H1 d Q := by
  obtain ⟨F, e, en, h⟩ := h
  simp only [evE] at h
  cases h1 : evEs p cs e with
  | err x e1 => rw [h1] at h; exact h.elim
  | bad => rw [h1] at h; exact h.elim
  | ok ds e1 =>
    rw [h1] at h
    simp only [R.bind] at h
    cases h2 : late cs ds e1 with
    | none => rw [h2] at h; exact h.elim
    | some ds' =>
      rw [h2] at h
      simp only at h
      cases h3 : pD o ds' with
      | none => rw [h3] at h; exact h.elim
      | some d =>
        rw [h3] at h
        exact ops_use en h1 fun F1 H1 vs a ar => ⟨F1, ds', d, a.en.fd, ar.reps a.en h2 nk, h3, post_of a h⟩
theorem rdOs_mono : ∀ {cs : List E} {σ : L2.St} {H : Hp} {Q Q' : List V → Hp → Prop}, rdOs g mk p cs σ H Q → (∀ vs H, Q vs H → Q' vs H) → rdOs g mk p cs σ H Q'
  | [], _, H, _, _, h, k => k [] H h
  | c :: cs, σ, H, _, _, h, k => rdO_mono h fun v H1 h1 => rdOs_mono (cs := cs) h1 fun vs H2 h2 => k (v :: vs) H2 h2
theorem l_tup {cs : List E} {es : List Expr} {j : Nat} {pos : Pos} (nk : NK mk cs) (ops : Ops X g mk p cs es) : PE X (.Tuple es j pos) (rdE true g mk (evE p (.op .tup cs))) := by
  refine PE.weak (pe_tup ops.pa) fun σ H Q hq => ?_
  refine rdOs_mono (op_plain nk hq) fun vs H1 h => ?_
  obtain ⟨F, ds, d, fd, r, e, k⟩ := h
  obtain ⟨hz, rfl⟩ := ite_some (show (if small ds.length = true then some (D.tup ds) else none) = some d from by cases ds <;> exact e)
  exact ⟨by rw [r.length]; exact small_line hz, fun q hq => post_tup fd k hq r⟩
theorem l_lst {cs : List E} {es : List Expr} {pos : Pos} (nk : NK mk cs) (ops : Ops X g mk p cs es) : PE X (.List es pos) (rdE true g mk (evE p (.op .lst cs))) := by
  refine PE.weak (pe_lst ops.pa) fun σ H Q hq => ?_
  refine rdOs_mono (op_plain nk hq) fun vs H1 h => ?_
  obtain ⟨F, ds, d, fd, r, e, k⟩ := h
  obtain ⟨hz, rfl⟩ := ite_some (show (if small ds.length = true then some (D.lst ds) else none) = some d from by cases ds <;> exact e)
  exact ⟨by rw [r.length]; exact small_line hz, fun q hq => post_lst fd k hq r⟩
/-! ### and, or, not as values -/
theorem strip_pe {op : BoolOp} {y : Expr} {r : List Expr} {pos : Pos} {t : L2.TE} (h : PE X (strip1 (.BoolOp op (y :: r) pos)) t) : PE X (.BoolOp op (y :: r) pos) t := by
  cases r with
  | nil => exact pe_one h
  | cons _ _ => exact h
theorem R_cases {α : Type} (r : R α) : (∃ a e, r = .ok a e) ∨ (∃ x e, r = .err x e) ∨ r = .bad := by
  cases r with
  | ok a e => exact .inl ⟨a, e, rfl⟩
  | err x e => exact .inr (.inl ⟨x, e, rfl⟩)
  | bad => exact .inr (.inr rfl)
theorem good_ok {fr : Bool} {F : Addr → Prop} {H : Hp} {σ : L2.St} {e : Ev} {Q : VK} {r : R D} (h : GoodE fr g mk F H σ e Q r) : ∃ d e1, r = .ok d e1 := by
  rcases R_cases r with h1 | ⟨x, e1, rfl⟩ | rfl
  · exact h1
  · exact h.elim
  · exact h.elim
theorem goodT_ok {F : Addr → Prop} {H : Hp} {σ : L2.St} {e : Ev} {Q : Bool → Hp → Prop} {r : R Bool} (h : GoodT g mk F H σ e Q r) : ∃ d e1, r = .ok d e1 := by
  rcases R_cases r with h1 | ⟨x, e1, rfl⟩ | rfl
  · exact h1
  · exact h.elim
  · exact h.elim
/-- what comes second, after the first -/
theorem GoodE.after {fr : Bool} {F F1 : Addr → Prop} {H H1 : Hp} {σ : L2.St} {e e1 : Ev} {Q : VK} {r : R D} (a : Aft g mk F H σ e F1 H1 e1) (h : GoodE fr g mk F H σ e Q r) : GoodE fr g mk F1 H1 σ e1 Q r := by
  obtain ⟨d, e2, rfl⟩ := good_ok h
  intro F2 H2 v b x
  refine h F2 H2 v (a.trans b) ?_
  unfold RV at x ⊢
  split
  · rename_i hc
    rw [if_pos hc] at x
    obtain ⟨q, e1, hn, nf, ro⟩ := x
    exact ⟨q, e1, a.st.fresh hn, nf, ro⟩
  · rename_i hc
    rw [if_neg hc] at x
    exact x
theorem GoodT.after {F F1 : Addr → Prop} {H H1 : Hp} {σ : L2.St} {e e1 : Ev} {Q : Bool → Hp → Prop} {r : R Bool} (a : Aft g mk F H σ e F1 H1 e1) (h : GoodT g mk F H σ e Q r) : GoodT g mk F1 H1 σ e1 Q r := by
  obtain ⟨d, e2, rfl⟩ := goodT_ok h
  exact fun F2 H2 b => h F2 H2 (a.trans b)
/-- one's own may be taken as plain -/
theorem GoodE.fr {fr fr' : Bool} {F : Addr → Prop} {H : Hp} {σ : L2.St} {e : Ev} {Q : VK} {r : R D} (en : REnv g mk F H σ e) (hf : fr = true → fr' = true) (h : GoodE fr g mk F H σ e Q r) : GoodE fr' g mk F H σ e Q r := by
  obtain ⟨d, e2, rfl⟩ := good_ok h
  intro F2 H2 v b x
  by_cases hx : (fr && d.isM) = true
  · refine h F2 H2 v b ?_
    unfold RV at x ⊢
    rw [Bool.and_eq_true] at hx
    rw [if_pos (by rw [hf hx.1, hx.2]; rfl)] at x
    rw [if_pos (by rw [hx.1, hx.2]; rfl)]
    exact x
  · obtain ⟨F3, b', x'⟩ := b.plain en x
    refine h F3 H2 v b' ?_
    unfold RV
    rw [if_neg hx]
    exact x'
theorem l_and {a b : E} {x y : Expr} {r : List Expr} {pos : Pos} {f1 f2 : Bool} (h1 : PE X x (rdE f1 g mk (evE p a))) (h2 : PE X (strip1 (.BoolOp .And (y :: r) pos)) (rdE f2 g mk (evE p b))) : PE X (.BoolOp .And (x :: y :: r) pos) (rdE f2 g mk (evE p (.and_ a b))) := by
  refine PE.weak (pe_and h1 (strip_pe h2)) fun σ H Q hq => ?_
  obtain ⟨F, e, en, hq⟩ := hq
  simp only [evE] at hq
  rcases R_cases (evE p a e) with ⟨d, e1, he⟩ | ⟨x, e1, he⟩ | he <;> rw [he] at hq <;> simp only [R.bind] at hq
  all_goals first | exact hq.elim | skip
  cases d <;> first | (exact hq.elim) | skip
  case bl c =>
    refine use en ⟨_, _, he, fun F1 H1 v af rv => ⟨c, by cases rv; rfl, ?_⟩⟩
    cases c with
    | true => exact ⟨F1, e1, af.en, hq.after af⟩
    | false => exact hq F1 H1 _ af (by unfold RV; rw [if_neg (by simp [D.isM])]; exact .bl _)
theorem l_or {a b : E} {x y : Expr} {r : List Expr} {pos : Pos} {f1 f2 : Bool} (h1 : PE X x (rdE f1 g mk (evE p a))) (h2 : PE X (strip1 (.BoolOp .Or (y :: r) pos)) (rdE f2 g mk (evE p b))) : PE X (.BoolOp .Or (x :: y :: r) pos) (rdE f2 g mk (evE p (.or_ a b))) := by
  refine PE.weak (pe_or h1 (strip_pe h2)) fun σ H Q hq => ?_
  obtain ⟨F, e, en, hq⟩ := hq
  simp only [evE] at hq
  rcases R_cases (evE p a e) with ⟨d, e1, he⟩ | ⟨x, e1, he⟩ | he <;> rw [he] at hq <;> simp only [R.bind] at hq
  all_goals first | exact hq.elim | skip
  cases d <;> first | (exact hq.elim) | skip
  case bl c =>
    refine use en ⟨_, _, he, fun F1 H1 v af rv => ⟨c, by cases rv; rfl, ?_⟩⟩
    cases c with
    | false => exact ⟨F1, e1, af.en, hq.after af⟩
    | true => exact hq F1 H1 _ af (by unfold RV; rw [if_neg (by simp [D.isM])]; exact .bl _)
theorem l_not {a : E} {x : Expr} {pos : Pos} {f1 : Bool} (h1 : PE X x (rdE f1 g mk (evE p a))) : PE X (.UnaryOp .Not x pos) (rdE true g mk (evE p (.not_ a))) := by
  refine PE.weak (pe_not h1) fun σ H Q hq => ?_
  obtain ⟨F, e, en, hq⟩ := hq
  simp only [evE] at hq
  rcases R_cases (evE p a e) with ⟨d, e1, he⟩ | ⟨x, e1, he⟩ | he <;> rw [he] at hq <;> simp only [R.bind] at hq
  all_goals first | exact hq.elim | skip
  cases d <;> first | (exact hq.elim) | skip
  case bl c =>
    exact use en ⟨_, _, he, fun F1 H1 v af rv => ⟨c, by cases rv; rfl, hq F1 H1 _ af (by unfold RV; rw [if_neg (by simp [D.isM])]; exact .bl _)⟩⟩
theorem l_ite {c a b : E} {x y z : Expr} {pos : Pos} {f1 f2 : Bool} (hc : PT X x (rdT g mk (evT p c))) (h1 : PE X y (rdE f1 g mk (evE p a))) (h2 : PE X z (rdE f2 g mk (evE p b))) : PE X (.IfExp x y z pos) (rdE (f1 && f2) g mk (evE p (.ite c a b))) := by
  refine PE.weak (pe_ifExp hc h1 h2) fun σ H Q hq => ?_
  obtain ⟨F, e, en, hq⟩ := hq
  simp only [evE] at hq
  rcases R_cases (evT p c e) with ⟨d, e1, he⟩ | ⟨x, e1, he⟩ | he <;> rw [he] at hq <;> simp only [R.bind] at hq
  all_goals first | exact hq.elim | skip
  refine ⟨F, e, en, ?_⟩
  rw [he]
  intro F1 H1 af
  cases d with
  | true =>
    simp only [if_true] at hq ⊢
    exact ⟨F1, e1, af.en, (hq.after af).fr af.en fun h => (Bool.and_eq_true_iff.mp h).1⟩
  | false =>
    simp only [Bool.false_eq_true, if_false] at hq ⊢
    exact ⟨F1, e1, af.en, (hq.after af).fr af.en fun h => (Bool.and_eq_true_iff.mp h).2⟩
/-! ### tests -/
theorem w_and {a b : E} {x y : Expr} {r : List Expr} {pos : Pos} (h1 : PT X x (rdT g mk (evT p a))) (h2 : PW X (.BoolOp .And (y :: r) pos) (rdT g mk (evT p b))) : PW X (.BoolOp .And (x :: y :: r) pos) (rdT g mk (evT p (.and_ a b))) := by
  refine PW.weak (pw_and h1 h2) fun σ H Q hq => ?_
  obtain ⟨F, e, en, hq⟩ := hq
  simp only [evT] at hq
  rcases R_cases (evT p a e) with ⟨d, e1, he⟩ | ⟨x, e1, he⟩ | he <;> rw [he] at hq <;> simp only [R.bind] at hq
  all_goals first | exact hq.elim | skip
  refine ⟨F, e, en, ?_⟩
  rw [he]
  intro F1 H1 af
  cases d with
  | true =>
    simp only [if_true] at hq ⊢
    exact ⟨F1, e1, af.en, hq.after af⟩
  | false =>
    simp only [Bool.false_eq_true, if_false] at hq ⊢
    exact hq F1 H1 af
theorem w_or {a b : E} {x y : Expr} {r : List Expr} {pos : Pos} (h1 : PT X x (rdT g mk (evT p a))) (h2 : PW X (.BoolOp .Or (y :: r) pos) (rdT g mk (evT p b))) : PW X (.BoolOp .Or (x :: y :: r) pos) (rdT g mk (evT p (.or_ a b))) := by
  refine PW.weak (pw_or h1 h2) fun σ H Q hq => ?_
  obtain ⟨F, e, en, hq⟩ := hq
  simp only [evT] at hq
  rcases R_cases (evT p a e) with ⟨d, e1, he⟩ | ⟨x, e1, he⟩ | he <;> rw [he] at hq <;> simp only [R.bind] at hq
  all_goals first | exact hq.elim | skip
  refine ⟨F, e, en, ?_⟩
  rw [he]
  intro F1 H1 af
  cases d with
  | false =>
    simp only [Bool.false_eq_true, if_false] at hq ⊢
    exact ⟨F1, e1, af.en, hq.after af⟩
  | true =>
    simp only [if_true] at hq ⊢
    exact hq F1 H1 af
theorem t_not {a : E} {x : Expr} {pos : Pos} (h1 : PT X x (rdT g mk (evT p a))) : PT X (.UnaryOp .Not x pos) (rdT g mk (evT p (.not_ a))) := by
  refine PT.weak (pt_not h1) fun σ H Q hq => ?_
  obtain ⟨F, e, en, hq⟩ := hq
  simp only [evT] at hq
  rcases R_cases (evT p a e) with ⟨d, e1, he⟩ | ⟨x, e1, he⟩ | he <;> rw [he] at hq <;> simp only [R.bind] at hq
  all_goals first | exact hq.elim | skip
  refine ⟨F, e, en, ?_⟩
  rw [he]
  exact fun F1 H1 af => hq F1 H1 af
/-- a value's truth -/
theorem truV {F : Addr → Prop} {H : Hp} {v : V} {d : D} {c : Bool} (hK : g.K = X.K) (r : RR g F H v d) (h : truth d = some c) : TruV X.K v H c := by
  cases d <;> first | (cases h; done) | skip
  case non => cases h; rw [r.non]; rfl
  case bl b => cases h; rw [r.bl]; rfl
  case int i => cases h; rw [r.int]; rfl
  case str t =>
    obtain ⟨hz, rfl⟩ := ite_some h
    rw [r.str]
    refine ⟨by rw [tx_len]; exact small_line hz, ?_⟩
    rw [tx_len]
    cases t <;> simp <;> omega
  case lst t =>
    cases h
    obtain ⟨a, vs, rfl, h1, p1⟩ := r.lst
    refine .inl ⟨vs, SqL.of h1, ?_⟩
    cases p1 <;> rfl
  case tup t =>
    cases h
    obtain ⟨a, vs, rfl, h1, p1⟩ := r.tup
    refine .inr (.inl ⟨vs, hK ▸ h1, ?_⟩)
    cases p1 <;> rfl
  case dct ks ws =>
    cases h
    obtain ⟨a, kvs, rfl, h1, e1, _, _⟩ := r.dct
    refine .inr (.inr ⟨kvs, h1, ?_⟩)
    subst e1
    cases kvs <;> rfl
/-- a name as a test -/
theorem t_v (x : XO T pg g q KK n B sc X) {i : Nat} {y : Str} {pos : Pos} (h1 : nsp B.N i y = true) (h2 : isV sc y = true) (h3 : okN y = true) : PT X (.Name y pos) (rdT g mk (evT p (.v i))) := by
  refine PT.weak (pt_truth (l_name x h1 h2 h3) fun _ => rfl) fun σ H Q hq => ?_
  obtain ⟨F, e, en, hq⟩ := hq
  simp only [evT, evE] at hq
  cases hg : get e i with
  | none => rw [hg] at hq; exact hq.elim
  | some d =>
    rw [hg] at hq
    simp only [R.ofO, R.bind] at hq
    cases ht : truth d with
    | none => rw [ht] at hq; exact hq.elim
    | some c =>
      rw [ht] at hq
      have hs : ∃ v, σ[i]? = some (some v) := by
        cases hk : mk i with
        | n => obtain ⟨w, hw, _⟩ := en.n i d hk hg; exact ⟨w, hw⟩
        | m => obtain ⟨w, hw, _⟩ := en.m i d hk hg; exact ⟨_, hw⟩
        | b => obtain ⟨w, hw, _⟩ := en.b i d hk hg; exact ⟨w, hw⟩
      obtain ⟨v, hs⟩ := hs
      exact ⟨v, hs, c, truV x.gf.hK (en.rr hg hs) ht, hq F H (.refl en)⟩
/-- any other value as a test -/
theorem t_plain {c : E} {x : Expr} {fr : Bool} (X0 : XO T pg g q KK n B sc X) (h : PE X x (rdE fr g mk (evE p c))) (he : ∀ whole, isTrue x X.env whole = (do let v ← whole; standAt x.pos; holding [v] (truthy v))) (ht : ∀ e, evT p c e = (evE p c e).bind fun d e1 => .ofO (truth d) e1) : PT X x (rdT g mk (evT p c)) := by
  refine PT.weak (pt_truth h he) fun σ H Q hq => ?_
  obtain ⟨F, e, en, hq⟩ := hq
  rw [ht] at hq
  rcases R_cases (evE p c e) with ⟨d, e1, he⟩ | ⟨x, e1, he⟩ | he <;> rw [he] at hq <;> simp only [R.bind] at hq
  all_goals first | exact hq.elim | skip
  cases htr : truth d with
  | none => rw [htr] at hq; exact hq.elim
  | some b =>
    rw [htr] at hq
    exact use en ⟨_, _, he, fun F1 H1 v af rv => ⟨b, truV X0.gf.hK (.inl rv) htr, hq F1 H1 af⟩⟩
end
end TE
/-! Te15: chains, fields, a slot's own list changed. -/
namespace TE
open PySem L2
section
variable {T : Tb} {pg : Pg} {g : G} {q : Q9} {KK n : Nat} {B : Bl} {sc : Scope} {X : Cx} {p : Pr} {mk : Nat → Kd}
/-! ### chains -/
theorem l_cmpR (X0 : XO T pg g q KK n B sc X) {o : P} {op : CmpOp} (ho : ordP o = true) (h : cmpOf o = some op) : OpR X (compareOp op) (rO2 true g fun a b => pD o [a, b]) := by
  cases o <;> first | (cases ho; done) | skip
  all_goals cases h
  · exact o_eq X0.gf.hK (by have := hu64 X0; omega)
  · exact o_ne X0.gf.hK (by have := hu64 X0; omega)
  · exact o_lt
  · exact o_le
  · exact o_gt
  · exact o_ge
theorem ord_bl {o : P} (ho : ordP o = true) {ds : List D} {d : D} (h : pD o ds = some d) : ∃ c, d = .bl c := by
  cases o <;> first | (cases ho; done) | skip
  all_goals
    rcases ds with _ | ⟨a, _ | ⟨b, _ | ⟨c, t⟩⟩⟩ <;> first | (cases h; done) | (cases a <;> cases h; done) | exact bl?_bl h
/-- what the two links ask -/
theorem chain_use {o o' : P} {a b c : E} {f1 f2 f3 : Bool} {σ : L2.St} {H : Hp} {Q : VK} (ho : ordP o = true) (ho' : ordP o' = true) (hq : rdE true g mk (evE p (.chain o o' a b c)) σ H Q) :
    tChain (rO2 true g fun a b => pD o [a, b]) (rO2 true g fun a b => pD o' [a, b]) (rdE f1 g mk (evE p a)) (rdE f2 g mk (evE p b)) (rdE f3 g mk (evE p c)) σ H Q := by
  obtain ⟨F, e, en, hq⟩ := hq
  simp only [evE] at hq
  rcases R_cases (evE p a e) with ⟨x, e1, h1⟩ | ⟨x, e1, h1⟩ | h1 <;> rw [h1] at hq <;> simp only [R.bind] at hq
  all_goals first | exact hq.elim | skip
  rcases R_cases (evE p b e1) with ⟨y, e2, h2⟩ | ⟨x, e2, h2⟩ | h2 <;> rw [h2] at hq <;> simp only [R.bind] at hq
  all_goals first | exact hq.elim | skip
  refine use en ⟨_, _, h1, fun F1 H1 v a1 r1 => use a1.en ⟨_, _, h2, fun F2 H2 w a2 r2 => ?_⟩⟩
  have r1' := r1.stp a1.en.mok a2.st
  cases h3 : pD o [x, y] with
  | none => rw [h3] at hq; exact hq.elim
  | some d =>
    obtain ⟨k, rfl⟩ := ord_bl ho h3
    rw [h3] at hq
    refine ⟨F2, x, y, .bl k, a2.en.fd, .inl r1', .inl r2, h3, fun F3 H3 v' s r => ?_⟩
    have e3 : v' = .bl k := by
      unfold RV at r
      rw [if_neg (by simp [D.isM])] at r
      cases r; rfl
    subst e3
    refine ⟨k, rfl, ?_⟩
    have a3 := (a1.trans a2).trans (Aft.add a2.en s)
    cases k with
    | false => exact hq F3 H3 _ a3 (by unfold RV; rw [if_neg (by simp [D.isM])]; exact .bl _)
    | true =>
      simp only at hq
      rcases R_cases (evE p c e2) with ⟨z, e3, h4⟩ | ⟨x, e3, h4⟩ | h4 <;> rw [h4] at hq <;> simp only [R.bind] at hq
      all_goals first | exact hq.elim | skip
      refine use a3.en ⟨_, _, h4, fun F4 H4 u a4 r4 => ?_⟩
      cases h5 : pD o' [y, z] with
      | none => rw [h5] at hq; exact hq.elim
      | some d =>
        rw [h5] at hq
        have r2' := (r2.stp mok0 s).stp a3.en.mok a4.st
        exact ⟨F4, y, z, d, a4.en.fd, .inl r2', .inl r4, h5, post_of (a3.trans a4) hq⟩
theorem l_chain (X0 : XO T pg g q KK n B sc X) {o o' : P} {op op' : CmpOp} {a b c : E} {x y z : Expr} {pos : Pos} {f1 f2 f3 : Bool} (ho : ordP o = true) (ho' : ordP o' = true) (h : cmpOf o = some op) (h' : cmpOf o' = some op') (hm : lastMarks [op, op'] [y, z] = false)
    (h1 : PE X x (rdE f1 g mk (evE p a))) (h2 : PE X y (rdE f2 g mk (evE p b))) (h3 : PE X z (rdE f3 g mk (evE p c))) : PE X (.Compare x [op, op'] [y, z] pos) (rdE true g mk (evE p (.chain o o' a b c))) :=
  PE.weak (pe_chain (l_cmpR X0 ho h) (l_cmpR X0 ho' h') h1 h2 h3 hm) fun _ _ _ hq => chain_use ho ho' hq
theorem t_chain (X0 : XO T pg g q KK n B sc X) {o o' : P} {op op' : CmpOp} {a b c : E} {x y z : Expr} {pos : Pos} {f1 f2 f3 : Bool} (ho : ordP o = true) (ho' : ordP o' = true) (h : cmpOf o = some op) (h' : cmpOf o' = some op') (hm : lastMarks [op, op'] [y, z] = false)
    (h1 : PE X x (rdE f1 g mk (evE p a))) (h2 : PE X y (rdE f2 g mk (evE p b))) (h3 : PE X z (rdE f3 g mk (evE p c))) : PT X (.Compare x [op, op'] [y, z] pos) (rdT g mk (evT p (.chain o o' a b c))) := by
  refine PT.weak (pt_chain (l_cmpR X0 ho h) (l_cmpR X0 ho' h') h1 h2 h3 hm) fun σ H Q hq => ?_
  have hq' : rdE true g mk (evE p (.chain o o' a b c)) σ H fun x H' => ∃ k, x = .bl k ∧ Q k H' := by
    obtain ⟨F, e, en, hq⟩ := hq
    refine ⟨F, e, en, ?_⟩
    have ht : evT p (.chain o o' a b c) e = (evE p (.chain o o' a b c) e).bind fun d e1 => .ofO (truth d) e1 := by simp only [evT]
    rw [ht] at hq
    rcases R_cases (evE p (.chain o o' a b c) e) with ⟨d, e1, he⟩ | ⟨x, e1, he⟩ | he <;> rw [he] at hq <;> simp only [R.bind] at hq
    all_goals first | exact hq.elim | skip
    rw [he]
    have hd : ∃ k, d = .bl k := by
      simp only [evE] at he
      obtain ⟨x, e2, _, he⟩ := bind_ok he
      obtain ⟨y, e3, _, he⟩ := bind_ok he
      split at he
      · obtain ⟨z, e4, _, he⟩ := bind_ok he
        exact ord_bl ho' (ofO_ok he).1
      · cases he; exact ⟨_, rfl⟩
      · cases he
    obtain ⟨k, rfl⟩ := hd
    intro F1 H1 v af r
    have hv : v = .bl k := by
      unfold RV at r
      rw [if_neg (by simp [D.isM])] at r
      cases r; rfl
    exact ⟨k, hv, hq F1 H1 af⟩
  exact chain_use ho ho' hq'
/-! ### fields -/
theorem zip_lookup {F : Addr → Prop} {H : Hp} : ∀ {ks : List Str} {vs : List V} {ds : List D} {f : Str} {d : D}, Reps g F H vs ds → (ks.zip ds).lookup f = some d → f ∈ ks ∧ ∃ v, (ks.zip vs).lookup f = some v ∧ Rep g F H v d
  | [], _, _, f, d, _, h => by simp at h
  | k :: ks, _, _, f, d, .nil, h => by simp at h
  | k :: ks, _, _, f, d, .cons r t, h => by
    simp only [List.zip_cons_cons, List.lookup_cons] at h ⊢
    cases hk : f == k with
    | true =>
      rw [hk] at h
      cases h
      rw [beq_iff_eq.mp hk]
      exact ⟨List.mem_cons_self, _, rfl, r⟩
    | false =>
      rw [hk] at h
      obtain ⟨h1, v, h2, h3⟩ := zip_lookup t h
      exact ⟨List.mem_cons_of_mem _ h1, v, h2, h3⟩
theorem l_fld (X0 : XO T pg g q KK n B sc X) (hp : ∀ C, p.flds C = g.cf C) {a : E} {x : Expr} {f : Str} {pos : Pos} {f1 : Bool} (hn : nosup x = true) (h : PE X x (rdE f1 g mk (evE p a))) : PE X (.Attribute x f pos) (rdE false g mk (evE p (.fld f a))) := by
  refine PE.weak (pe_fld h (sup_of hn)) fun σ H Q hq => ?_
  obtain ⟨F, e, en, hq⟩ := hq
  simp only [evE] at hq
  rcases R_cases (evE p a e) with ⟨d, e1, h1⟩ | ⟨x, e1, h1⟩ | h1 <;> rw [h1] at hq <;> simp only [R.bind] at hq
  all_goals first | exact hq.elim | skip
  cases d <;> first | (exact hq.elim) | skip
  case obj C ds =>
    simp only at hq
    cases h2 : ((p.flds C).zip ds).lookup f with
    | none => rw [h2] at hq; exact hq.elim
    | some d =>
      rw [h2] at hq
      refine use en ⟨_, _, h1, fun F1 H1 v af rv => ?_⟩
      cases rv with
      | @obj a' C' dx vs ds' fa ha hl rs =>
        rw [hp C] at h2
        obtain ⟨hm, w, hw, rw'⟩ := zip_lookup rs h2
        have hC : C < T.nC := X0.gf.fc C fun e0 => by rw [e0] at hm; cases hm
        have hK := X0.gf.hK
        refine ⟨a', g.ca C, dx, _, w, rfl, ha, hK ▸ (X0.gf.ow.one C hC).cl, X0.gf.na C f hC hm, hw, ?_⟩
        exact hq F1 H1 w af (by unfold RV; rw [if_neg (by simp)]; exact rw')
/-! ### a slot's own object changed -/
theorem get_set {e : Ev} {i j : Nat} {o : Option D} : get (e.set i o) j = if i = j then (if i < e.length then o else none) else get e j := by
  unfold get
  rw [List.getElem?_set]
  split
  · split
    · rfl
    · rfl
  · rfl
theorem get_lt {e : Ev} {i : Nat} {d : D} (h : get e i = some d) : i < e.length := by
  unfold get at h
  by_cases hl : i < e.length
  · exact hl
  · rw [List.getElem?_eq_none (by omega)] at h
    cases h
theorem set_aft {F : Addr → Prop} {H : Hp} {σ : L2.St} {e : Ev} {i : Nat} {P : Addr} {d0 d : D} {o : HO} (en : REnv g mk F H σ e) (hk : mk i = .m) (hg : get e i = some d0) (hs : σ[i]? = some (some (.ref P))) (hr : Root g F (upd H P o) P d) :
    Aft g mk F H σ e F (upd H P o) (e.set i (some d)) := by
  have hM : Ms mk σ e P := ⟨i, d0, hk, hg, hs⟩
  obtain ⟨nF, o0, hP, _⟩ := en.mok P hM
  have st : Stp (Ms mk σ e) F H F (upd H P o) := ⟨fun _ h => h, fun _ h => .inl h, fun a u h n => by
    have z : a ≠ P := fun z => by subst z; exact n hM
    rw [upd_ne z]; exact h, fun a u h => by
    by_cases z : a = P
    · exact ⟨o, by rw [z, upd_same]⟩
    · exact ⟨u, by rw [upd_ne z]; exact h⟩, fun a h => by
    obtain ⟨u, hu⟩ := en.fd a h
    by_cases z : a = P
    · exact ⟨o, by rw [z, upd_same]⟩
    · exact ⟨u, by rw [upd_ne z]; exact hu⟩⟩
  have hl := get_lt hg
  have gs : ∀ j, get (e.set i (some d)) j = if i = j then some d else get e j := fun j => by
    rw [get_set, if_pos hl]
  have ms : ∀ a, Ms mk σ (e.set i (some d)) a → Ms mk σ e a := fun a ⟨j, d', h1, h2, h3⟩ => by
    rw [gs] at h2
    by_cases z : i = j
    · subst z; exact ⟨i, d0, h1, hg, h3⟩
    · rw [if_neg z] at h2; exact ⟨j, d', h1, h2, h3⟩
  refine ⟨st, ⟨st.fd, fun j d' h1 h2 => ?_, fun j d' h1 h2 => ?_, fun j d' h1 h2 => ?_, fun j j' d1 d2 a h1 h2 h3 h4 h5 h6 => ?_, by rw [List.length_set]; exact en.len⟩, fun j d' h1 h2 => ?_⟩
  · have z : i ≠ j := fun z => by rw [z, h1] at hk; cases hk
    rw [gs, if_neg z] at h2
    obtain ⟨v, hv, r⟩ := en.n j d' h1 h2
    exact ⟨v, hv, r.stp en.mok st⟩
  · by_cases z : i = j
    · subst z
      rw [gs, if_pos rfl] at h2
      cases h2
      exact ⟨P, hs, nF, hr⟩
    · rw [gs, if_neg z] at h2
      obtain ⟨a, ha, nf, r⟩ := en.m j d' h1 h2
      refine ⟨a, ha, nf, ?_⟩
      have hne : a ≠ P := fun z' => by
        rw [z'] at ha
        exact en.ne i j d0 d' P hk h1 z hg h2 hs ha
      have m0 : MOk (fun x => x = P) F H := fun x hx => by rw [hx]; exact en.mok P hM
      have s0 : Stp (fun x => x = P) F H F (upd H P o) := ⟨fun _ h => h, fun _ h => .inl h, fun a u h n => by rw [upd_ne n]; exact h, st.th, st.fd⟩
      exact r.stp m0 s0 hne
  · have z : i ≠ j := fun z => by rw [z, h1] at hk; cases hk
    rw [gs, if_neg z] at h2
    obtain ⟨v, hv, r⟩ := en.b j d' h1 h2
    refine ⟨v, hv, ?_⟩
    rcases r with r | ⟨a, rfl, nm, r⟩
    · exact .inl (r.stp en.mok st)
    · exact .inr ⟨a, rfl, fun z => nm (ms a z), r.stp en.mok st nm⟩
  · have key : ∀ j d', get (e.set i (some d)) j = some d' → ∃ d'', get e j = some d'' := fun j d' h => by
      rw [gs] at h
      by_cases z : i = j
      · subst z; exact ⟨d0, hg⟩
      · rw [if_neg z] at h; exact ⟨d', h⟩
    obtain ⟨d1', h4'⟩ := key j d1 h4
    obtain ⟨d2', h5'⟩ := key j' d2 h5
    exact en.ne j j' d1' d2' a h1 h2 h3 h4' h5' h6
  · rw [gs] at h2
    by_cases z : i = j
    · subst z; exact ⟨d0, hg, fun hb => by rw [hk] at hb; cases hb⟩
    · rw [if_neg z] at h2; exact ⟨d', h2, fun _ => rfl⟩
/-- children of a slot's own object stay -/
theorem kids {F : Addr → Prop} {H : Hp} {σ : L2.St} {e : Ev} {i : Nat} {P : Addr} {d0 : D} {o : HO} {vs : List V} {ds : List D} (en : REnv g mk F H σ e) (hk : mk i = .m) (hg : get e i = some d0) (hs : σ[i]? = some (some (.ref P))) (r : Reps g F H vs ds) : Reps g F (upd H P o) vs ds := by
  have hM : Ms mk σ e P := ⟨i, d0, hk, hg, hs⟩
  exact r.mono en.mok (fun _ h => h) fun a u h n => by
    have z : a ≠ P := fun z => by subst z; exact n hM
    rw [upd_ne z]; exact h
theorem l_pop (X0 : XO T pg g q KK n B sc X) {i : Nat} {x : Str} {a : E} {y : Expr} {px apos cpos : Pos} {f1 : Bool} (h1 : nsp B.N i x = true) (h2 : isV sc x = true) (h3 : okN x = true) (hk : mk i = .m) (hl : (apos.endLine == cpos.line) = true) (hn : nst y = true) (h : PE X y (rdE f1 g mk (evE p a))) :
    PE X (.Call (.Attribute (.Name x px) "pop" apos) [y] [] cpos) (rdE false g mk (evE p (.pop i a))) := by
  have hs1 : starEach [y] X.env = (false, eval y X.env) :: starEach [] X.env := star_ns hn _ _
  refine PE.weak (pe_bm PySem.F.plainAttrs_list PySem.F.slot_list_pop PySem.F.type_list_pop mt_popAt (l_name X0 h1 h2 h3) (pa_cons h pa_nil hs1) rfl ?_ hl hs1 rfl) fun σ H Q hq => ?_
  · rw [hs1]; rfl
  · obtain ⟨F, e, en, hq⟩ := hq
    simp only [evE] at hq
    cases hg0 : get e i with
    | none => rw [hg0] at hq; exact hq.elim
    | some d0 =>
      rw [hg0] at hq
      cases d0 <;> first | (exact hq.elim) | skip
      case lst ds0 =>
        simp only at hq
        obtain ⟨P, hs, nf, vs0, hP, _⟩ := en.m i _ hk hg0
        refine ⟨.ref P, hs, .inl ⟨rfl, vs0, SqL.of hP⟩, ?_⟩
        rcases R_cases (evE p a e) with ⟨d, e1, he⟩ | ⟨x, e1, he⟩ | he <;> rw [he] at hq <;> simp only [R.bind] at hq
        all_goals first | exact hq.elim | skip
        cases d <;> first | (exact hq.elim) | skip
        case int j =>
          cases hg : get e1 i with
          | none => rw [hg] at hq; exact hq.elim
          | some d0 =>
            rw [hg] at hq
            cases d0 <;> first | (exact hq.elim) | skip
            case lst ds =>
              simp only at hq
              cases hi : ixOf ds.length j with
              | none => rw [hi] at hq; exact hq.elim
              | some k =>
                rw [hi] at hq
                simp only at hq
                cases hd : ds[k]? with
                | none => rw [hd] at hq; exact hq.elim
                | some z =>
                  rw [hd] at hq
                  simp only at hq
                  by_cases hz : small ds.length = true
                  · rw [if_pos hz] at hq
                    refine use en ⟨_, _, he, fun F1 H1 v a1 r1 => ?_⟩
                    obtain ⟨P', hs', nf', vs, hP', rs⟩ := a1.en.m i _ hk hg
                    rw [hs] at hs'; cases hs'
                    obtain ⟨w, hw, rw'⟩ := rs.get hd
                    have hlen := rs.length
                    have hsm : ds.length ≤ 1000000 := of_decide_eq_true hz
                    have hb : -(ds.length : Int) ≤ j ∧ j < ds.length ∧ seqIndex? j vs.length = some k := by
                      unfold ixOf at hi
                      unfold seqIndex?
                      rw [hlen]
                      split at hi
                      · rename_i h0
                        obtain ⟨h5, rfl⟩ := ite_some hi
                        refine ⟨by omega, by omega, ?_⟩
                        have e0 : (if j < 0 then j + (ds.length : Int) else j) = j := if_neg (by omega)
                        simp only [e0]
                        rw [if_pos (by simp; omega)]
                      · rename_i h0
                        obtain ⟨h5, rfl⟩ := ite_some hi
                        refine ⟨by omega, by omega, ?_⟩
                        have e0 : (if j < 0 then j + (ds.length : Int) else j) = j + ds.length := if_pos (by omega)
                        simp only [e0]
                        rw [if_pos (by simp; omega)]
                        congr 1
                        omega
                    refine ⟨P, vs, j, k, w, rfl, by cases r1; rfl, hP', by omega, by omega, hb.2.2, hw, ?_⟩
                    have k1 := kids (o := .lst (vs.eraseIdx k)) a1.en hk hg hs (Reps.cons rw' (rs.eraseIdx k))
                    cases k1 with
                    | cons k1 k2 =>
                      have a2 := set_aft (o := .lst (vs.eraseIdx k)) (d := .lst (ds.eraseIdx k)) a1.en hk hg hs ⟨_, upd_same, k2⟩
                      exact hq F1 _ w (a1.trans a2) (by unfold RV; rw [if_neg (by simp)]; exact k1)
                  · rw [if_neg hz] at hq; exact hq.elim
end
end TE
/-! Te16: a call of a def. -/
namespace TE
open PySem L2
section
variable {T : Tb} {pg : Pg} {g : G} {q : Q9} {KK n : Nat} {B : Bl} {sc : Scope} {X : Cx} {p : Pr} {mk : Nat → Kd}
theorem AR.lens {F : Addr → Prop} {H : Hp} {σ : L2.St} : ∀ {es : List E} {vs : List V} {ds : List D}, AR g F H σ es vs ds → vs.length = es.length ∧ ds.length = es.length
  | _, _, _, .nil => ⟨rfl, rfl⟩
  | _, _, _, .slot _ a => ⟨congrArg (· + 1) a.lens.1, congrArg (· + 1) a.lens.2⟩
  | _, _, _, .val _ _ a => ⟨congrArg (· + 1) a.lens.1, congrArg (· + 1) a.lens.2⟩
/-- an argument by its place -/
theorem AR.pt {F : Addr → Prop} {H : Hp} {σ : L2.St} {e : Ev} : ∀ {es : List E} {vs : List V} {ds ds' : List D}, AR g F H σ es vs ds → late es ds e = some ds' → ds'.length = es.length ∧ ∀ (j : Nat) (d : D), ds'[j]? = some d → ∃ (c : E) (v : V), es[j]? = some c ∧ vs[j]? = some v ∧ ((∃ i, c = E.v i ∧ get e i = some d ∧ σ[i]? = some (some v)) ∨ ((∀ i, c ≠ E.v i) ∧ Rep g F H v d))
  | _, _, _, _, .nil, h => by
    cases h
    exact ⟨rfl, fun j d h => by simp at h⟩
  | _, _, _, _, .slot (i := i) (v := v) hv a, h => by
    simp only [late] at h
    obtain ⟨d0, hd, h⟩ := Option.bind_eq_some_iff.mp h
    obtain ⟨ds2, h2, rfl⟩ := Option.map_eq_some_iff.mp h
    obtain ⟨hl, ih⟩ := AR.pt a h2
    refine ⟨congrArg (· + 1) hl, fun j d hj => ?_⟩
    cases j with
    | zero =>
      simp only [List.getElem?_cons_zero, Option.some.injEq] at hj
      subst hj
      exact ⟨_, _, rfl, rfl, .inl ⟨i, rfl, hd, hv⟩⟩
    | succ j =>
      simp only [List.getElem?_cons_succ] at hj ⊢
      exact ih j d hj
  | c :: es, _, _, _, .val hn hr a, h => by
    have e1 : ∀ d ds, late (c :: es) (d :: ds) e = (late es ds e).map (d :: ·) := fun d ds => by
      cases c <;> first | rfl | exact absurd rfl (hn _)
    rw [e1] at h
    obtain ⟨ds2, h2, rfl⟩ := Option.map_eq_some_iff.mp h
    obtain ⟨hl, ih⟩ := AR.pt a h2
    refine ⟨congrArg (· + 1) hl, fun j d hj => ?_⟩
    cases j with
    | zero =>
      simp only [List.getElem?_cons_zero, Option.some.injEq] at hj
      subst hj
      exact ⟨_, _, rfl, rfl, .inr ⟨hn, hr⟩⟩
    | succ j =>
      simp only [List.getElem?_cons_succ] at hj ⊢
      exact ih j d hj
theorem back_other : ∀ {io : List Bool} {es : List E} {outs e : Ev} {i : Nat}, (∀ j : Nat, io[j]? = some true → es[j]? = some (E.v i) → False) → get (back io es outs e) i = get e i
  | [], _, _, _, _, _ => by simp [back]
  | b :: io, [], outs, e, i, _ => by cases b <;> simp [back]
  | b :: io, c :: es, [], e, i, _ => by cases b <;> cases c <;> simp [back]
  | b :: io, c :: es, o :: outs, e, i, h => by
    have ih : ∀ e, get (back io es outs e) i = get e i := fun e => back_other fun j h1 h2 => h (j + 1) (by simpa using h1) (by simpa using h2)
    cases b with
    | false =>
      have : back (false :: io) (c :: es) (o :: outs) e = back io es outs e := by cases c <;> rfl
      rw [this, ih]
    | true =>
      by_cases hv : ∃ k, c = .v k
      · obtain ⟨k, rfl⟩ := hv
        show get (back io es outs (e.set k o)) i = _
        rw [ih, get_set]
        have hk : k ≠ i := fun z => by subst z; exact h 0 rfl rfl
        rw [if_neg hk]
      · have : back (true :: io) (c :: es) (o :: outs) e = back io es outs e := by
          cases c <;> first | rfl | exact absurd ⟨_, rfl⟩ hv
        rw [this, ih]
theorem back_len : ∀ {io : List Bool} {es : List E} {outs e : Ev}, (back io es outs e).length = e.length
  | [], _, _, _ => by simp [back]
  | b :: io, [], outs, e => by cases b <;> simp [back]
  | b :: io, c :: es, [], e => by cases b <;> cases c <;> simp [back]
  | b :: io, c :: es, o :: outs, e => by
    by_cases hv : b = true ∧ ∃ k, c = .v k
    · obtain ⟨rfl, k, rfl⟩ := hv
      show (back io es outs (e.set k o)).length = _
      rw [back_len, List.length_set]
    · have : back (b :: io) (c :: es) (o :: outs) e = back io es outs e := by
        cases b <;> cases c <;> first | rfl | exact absurd ⟨rfl, _, rfl⟩ hv
      rw [this, back_len]
theorem back_hit : ∀ {io : List Bool} {es : List E} {outs e : Ev} {i j : Nat} {o : Option D}, io[j]? = some true → es[j]? = some (E.v i) → outs[j]? = some o → (∀ k : Nat, io[k]? = some true → es[k]? = some (E.v i) → k = j) → i < e.length → get (back io es outs e) i = o
  | [], _, _, _, _, _, _, h, _, _, _, _ => by simp at h
  | _ :: _, [], _, _, _, _, _, _, h, _, _, _ => by simp at h
  | _ :: _, _ :: _, [], _, _, _, _, _, _, h, _, _ => by simp at h
  | b :: io, c :: es, o' :: outs, e, i, 0, o, h1, h2, h3, hu, hl => by
    simp only [List.getElem?_cons_zero, Option.some.injEq] at h1 h2 h3
    subst h1 h2 h3
    show get (back io es outs (e.set i o')) i = o'
    rw [back_other fun k h1 h2 => by
      have := hu (k + 1) (by simpa using h1) (by simpa using h2)
      omega]
    rw [get_set, if_pos rfl, if_pos hl]
  | b :: io, c :: es, o' :: outs, e, i, j + 1, o, h1, h2, h3, hu, hl => by
    simp only [List.getElem?_cons_succ] at h1 h2 h3
    have ih : ∀ e : Ev, i < e.length → get (back io es outs e) i = o := fun e hl => back_hit h1 h2 h3 (fun k a b => by
      have := hu (k + 1) (by simpa using a) (by simpa using b)
      omega) hl
    by_cases hv : b = true ∧ ∃ k, c = .v k
    · obtain ⟨rfl, k, rfl⟩ := hv
      exact ih _ (by rw [List.length_set]; exact hl)
    · have : back (b :: io) (c :: es) (o' :: outs) e = back io es outs e := by
        cases b <;> cases c <;> first | rfl | exact absurd ⟨rfl, _, rfl⟩ hv
      rw [this]; exact ih _ hl
theorem outs_at : ∀ {io : List Bool} {e : Ev} {j : Nat}, io[j]? = some true → (outsOf io e)[j]? = some (get e j)
  | [], _, _, h => by simp at h
  | b :: io, e, 0, h => by
    simp only [List.getElem?_cons_zero, Option.some.injEq] at h
    subst h
    cases e <;> simp [outsOf, get]
  | b :: io, e, j + 1, h => by
    simp only [List.getElem?_cons_succ] at h
    have := outs_at (e := e.tail) h
    simp only [outsOf, List.getElem?_cons_succ]
    rw [this]
    cases e <;> simp [get]
/-- arguments by the parameters' kinds, and no slot lent twice -/
structure Lent (mk : Nat → Kd) (kd : List Kd) (es : List E) : Prop where
  len : es.length = kd.length
  m : ∀ (j : Nat) c, kd[j]? = some Kd.m → es[j]? = some c → ∃ i, c = E.v i ∧ mk i = Kd.m
  n : ∀ (j : Nat) i, kd[j]? = some Kd.n → es[j]? = some (E.v i) → mk i = .n
  u : ∀ (j k : Nat) i, kd[j]? = some Kd.m → es[j]? = some (E.v i) → es[k]? = some (E.v i) → k = j
theorem kdf_at {kd : List Kd} {j : Nat} {k : Kd} (h : j < kd.length) (e : kdf kd j = k) : kd[j]? = some k := by
  unfold kdf at e
  rw [List.getElem?_eq_getElem h]
  rw [List.getD_eq_getElem?_getD, List.getElem?_eq_getElem h] at e
  exact congrArg some e
theorem get_map {ds : List D} {j : Nat} {d : D} : get (ds.map some) j = some d ↔ ds[j]? = some d := by
  unfold get
  rw [List.getElem?_map]
  cases ds[j]? <;> simp
theorem sig_map {vs : List V} {j : Nat} {v : V} : (vs.map some)[j]? = some (some v) ↔ vs[j]? = some v := by
  rw [List.getElem?_map]
  cases vs[j]? <;> simp
section
variable {kd : List Kd} {es : List E} {F F' : Addr → Prop} {H H' : Hp} {σ : L2.St} {e e' : Ev} {vs : List V} {ds ds' : List D}
theorem lt_of_get {α : Type} {l : List α} {j : Nat} {a : α} (h : l[j]? = some a) : j < l.length := (List.getElem?_eq_some_iff.mp h).1
/-- the parameters' addresses that are written are slots' -/
theorem ms_par (L : Lent mk kd es) (en : REnv g mk F H σ e) (ar : AR g F H σ es vs ds) (hl : late es ds e = some ds') {P : Addr} (h : Ms (kdf kd) (vs.map some) (ds'.map some) P) : ∃ (j i : Nat) (d : D), kd[j]? = some Kd.m ∧ es[j]? = some (E.v i) ∧ mk i = .m ∧ get e i = some d ∧ σ[i]? = some (some (.ref P)) ∧ vs[j]? = some (.ref P) := by
  obtain ⟨j, d, h1, h2, h3⟩ := h
  obtain ⟨hlen, pt⟩ := ar.pt hl
  have h2 := get_map.mp h2
  have h3 := sig_map.mp h3
  have hj : j < kd.length := by rw [← L.len, ← hlen]; exact lt_of_get h2
  have hk := kdf_at hj h1
  obtain ⟨c, v, hc, hv, x⟩ := pt j d h2
  obtain ⟨i, rfl, hm⟩ := L.m j c hk hc
  rw [h3] at hv
  have e0 := Option.some.inj hv
  subst e0
  rcases x with ⟨i', hi, hg, hs⟩ | ⟨hn, _⟩
  · cases hi
    exact ⟨j, i, d, hk, hc, hm, hg, hs, h3⟩
  · exact absurd rfl (hn i)
theorem par_env (L : Lent mk kd es) (en : REnv g mk F H σ e) (ar : AR g F H σ es vs ds) (hl : late es ds e = some ds') : REnv g (kdf kd) F H (vs.map some) (ds'.map some) := by
  obtain ⟨hlen, pt⟩ := ar.pt hl
  have lt : ∀ {j d}, ds'[j]? = some d → j < kd.length := fun h => by rw [← L.len, ← hlen]; exact lt_of_get h
  refine ⟨en.fd, fun j d hk hg => ?_, fun j d hk hg => ?_, fun j d hk hg => ?_, fun j k d d' P h1 h2 h3 h4 h5 h6 h7 => ?_, by simp only [List.length_map]; rw [hlen, ar.lens.1]; exact Nat.le_refl _⟩
  · have hd := get_map.mp hg
    obtain ⟨c, v, hc, hv, x⟩ := pt j d hd
    refine ⟨v, sig_map.mpr hv, ?_⟩
    rcases x with ⟨i, rfl, hgi, hs⟩ | ⟨_, r⟩
    · obtain ⟨w, hw, r⟩ := en.n i d (L.n j i (kdf_at (lt hd) hk) hc) hgi
      rw [hs] at hw; cases hw
      exact r
    · exact r
  · have hd := get_map.mp hg
    obtain ⟨c, v, hc, hv, x⟩ := pt j d hd
    obtain ⟨i, rfl, hm⟩ := L.m j c (kdf_at (lt hd) hk) hc
    rcases x with ⟨i', hi, hgi, hs⟩ | ⟨hn, _⟩
    · cases hi
      obtain ⟨P, hP, nf, r⟩ := en.m i d hm hgi
      rw [hs] at hP; cases hP
      exact ⟨P, sig_map.mpr hv, nf, r⟩
    · exact absurd rfl (hn i)
  · have hd := get_map.mp hg
    obtain ⟨c, v, hc, hv, x⟩ := pt j d hd
    refine ⟨v, sig_map.mpr hv, ?_⟩
    rcases x with ⟨i, rfl, hgi, hs⟩ | ⟨_, r⟩
    · rcases en.rr hgi hs with r | ⟨P, rfl, r⟩
      · exact .inl r
      · refine .inr ⟨P, rfl, fun z => ?_, r⟩
        obtain ⟨k, i', d', hk', hc', hm', hg', hs', _⟩ := ms_par L en ar hl z
        cases hki : mk i with
        | n =>
          obtain ⟨w, hw, r'⟩ := en.n i d hki hgi
          rw [hs] at hw; cases hw
          obtain ⟨a, ha, fa, _⟩ := r'.root (root_isM r)
          cases ha
          exact (en.mok P ⟨i', d', hm', hg', hs'⟩).1 fa
        | m =>
          by_cases hii : i = i'
          · subst hii
            have := L.u k j i hk' hc' hc
            subst this
            have := kdf_at (lt hd) hk
            rw [hk'] at this; cases this
          · exact en.ne i i' d d' P hki hm' hii hgi hg' hs hs'
        | b =>
          obtain ⟨w, hw, r'⟩ := en.b i d hki hgi
          rw [hs] at hw; cases hw
          rcases r' with r' | ⟨a, ha, nm, _⟩
          · obtain ⟨a, ha, fa, _⟩ := r'.root (root_isM r)
            cases ha
            exact (en.mok P ⟨i', d', hm', hg', hs'⟩).1 fa
          · cases ha
            exact nm ⟨i', d', hm', hg', hs'⟩
    · exact .inl r
  · have a1 : Ms (kdf kd) (vs.map some) (ds'.map some) P := ⟨j, d, h1, h4, h6⟩
    have hd := get_map.mp h4
    have hd' := get_map.mp h5
    obtain ⟨c, v, hc, hv, x⟩ := pt j d hd
    obtain ⟨c', v', hc', hv', x'⟩ := pt k d' hd'
    obtain ⟨i, rfl, hm⟩ := L.m j c (kdf_at (lt hd) h1) hc
    obtain ⟨i', rfl, hm'⟩ := L.m k c' (kdf_at (lt hd') h2) hc'
    have e1 := sig_map.mp h6
    have e2 := sig_map.mp h7
    rw [hv] at e1; rw [hv'] at e2
    have e1' := Option.some.inj e1
    have e2' := Option.some.inj e2
    subst e1' e2'
    rcases x with ⟨_, hi, hgi, hs⟩ | ⟨hn, _⟩
    · cases hi
      rcases x' with ⟨_, hi, hgi', hs'⟩ | ⟨hn, _⟩
      · cases hi
        by_cases hii : i = i'
        · subst hii
          exact h3 (L.u k j i (kdf_at (lt hd') h2) hc' hc)
        · exact en.ne i i' d d' P hm hm' hii hgi hgi' hs hs'
      · exact absurd rfl (hn i')
    · exact absurd rfl (hn i)
/-- behind a call: the frame -/
theorem aft_call (L : Lent mk kd es) (en : REnv g mk F H σ e) (ar : AR g F H σ es vs ds) (hl : late es ds e = some ds') (hle : e'.length = vs.length) (a : Aft g (kdf kd) F H (vs.map some) (ds'.map some) F' H' e') : Aft g mk F H σ e F' H' (back (kd.map isM) es (outsOf (kd.map isM) e') e) := by
  obtain ⟨hlen, pt⟩ := ar.pt hl
  have hvl := ar.lens.1
  have iom : ∀ j : Nat, (kd.map isM)[j]? = some true ↔ kd[j]? = some Kd.m := fun j => by
    rw [List.getElem?_map]
    cases h : kd[j]? with
    | none => simp
    | some k => cases k <;> simp [isM]
  have par : ∀ P, Ms (kdf kd) (vs.map some) (ds'.map some) P → Ms mk σ e P := fun P h => by
    obtain ⟨_, i, d, _, _, hm, hg, hs, _⟩ := ms_par L en ar hl h
    exact ⟨i, d, hm, hg, hs⟩
  have st := a.st.weak par
  -- what stands in a slot behind the call
  have gb : ∀ i : Nat, (get (back (kd.map isM) es (outsOf (kd.map isM) e') e) i = get e i ∧ ∀ j : Nat, kd[j]? = some Kd.m → es[j]? ≠ some (E.v i)) ∨ (∃ (j : Nat) (d : D), kd[j]? = some Kd.m ∧ es[j]? = some (E.v i) ∧ mk i = .m ∧ get e i = some d ∧ get (back (kd.map isM) es (outsOf (kd.map isM) e') e) i = get e' j ∧ ∃ v, vs[j]? = some v ∧ σ[i]? = some (some v)) := fun i => by
    by_cases hx : ∃ j : Nat, kd[j]? = some Kd.m ∧ es[j]? = some (E.v i)
    · obtain ⟨j, hj, hc⟩ := hx
      obtain ⟨i', hi, hm⟩ := L.m j _ hj hc
      cases hi
      have hjl : j < ds'.length := by rw [hlen]; exact lt_of_get hc
      obtain ⟨c, v, hc', hv, x⟩ := pt j _ (List.getElem?_eq_getElem hjl)
      rw [hc] at hc'; cases hc'
      rcases x with ⟨_, hi, hg, hs⟩ | ⟨hn, _⟩
      · cases hi
        refine .inr ⟨j, _, hj, hc, hm, hg, ?_, v, hv, hs⟩
        exact back_hit ((iom j).mpr hj) hc (outs_at ((iom j).mpr hj)) (fun k h1 h2 => L.u j k i hj hc h2) (get_lt hg)
      · exact absurd rfl (hn i)
    · refine .inl ⟨back_other fun j h1 h2 => hx ⟨j, (iom j).mp h1, h2⟩, fun j h1 h2 => hx ⟨j, h1, h2⟩⟩
  have sub : Sub mk e (back (kd.map isM) es (outsOf (kd.map isM) e') e) := fun i d' hm h => by
    rcases gb i with ⟨h1, _⟩ | ⟨j, d, _, _, hmm, hg, _⟩
    · rw [h1] at h; exact ⟨d', h, fun _ => rfl⟩
    · exact ⟨d, hg, fun hb => by rw [hmm] at hb; cases hb⟩
  have msb : ∀ P, Ms mk σ (back (kd.map isM) es (outsOf (kd.map isM) e') e) P → Ms mk σ e P := fun P h => h.sub sub
  refine ⟨st, ⟨st.fd, fun i d hk hg => ?_, fun i d hk hg => ?_, fun i d hk hg => ?_, fun i j d d' P h1 h2 h3 h4 h5 h6 => ?_, by rw [back_len]; exact en.len⟩, sub⟩
  · rcases gb i with ⟨h1, _⟩ | ⟨j, d0, _, _, hm, _⟩
    · rw [h1] at hg
      obtain ⟨v, hv, r⟩ := en.n i d hk hg
      exact ⟨v, hv, r.stp en.mok st⟩
    · rw [hk] at hm; cases hm
  · rcases gb i with ⟨h1, hno⟩ | ⟨j, d0, hj, hc, hm, hg0, hb, v, hv, hs⟩
    · rw [h1] at hg
      obtain ⟨P, hP, nf, r⟩ := en.m i d hk hg
      have nM : ¬ Ms (kdf kd) (vs.map some) (ds'.map some) P := fun z => by
        obtain ⟨j, i', d', hj, hc, hm', hg', hs', _⟩ := ms_par L en ar hl z
        by_cases hii : i = i'
        · subst hii; exact hno j hj hc
        · exact en.ne i i' d d' P hk hm' hii hg hg' hP hs'
      refine ⟨P, hP, fun z => ?_, r.stp (par_env L en ar hl).mok a.st nM⟩
      rcases a.st.fn P z with z | z | z
      rotate_left 2
      · exact nM z
      · exact nf z
      · obtain ⟨_, o, ho, _⟩ := en.mok P ⟨i, d, hk, hg, hP⟩
        rw [ho] at z; cases z
    · rw [hb] at hg
      have hkj : kdf kd j = .m := by
        unfold kdf
        rw [List.getD_eq_getElem?_getD, hj]; rfl
      obtain ⟨P, hP, nf, r⟩ := a.en.m j d hkj hg
      have e1 := sig_map.mp hP
      rw [hv] at e1
      cases e1
      exact ⟨P, hs, nf, r⟩
  · rcases gb i with ⟨h1, _⟩ | ⟨j, d0, _, _, hm, _⟩
    · rw [h1] at hg
      obtain ⟨v, hv, r⟩ := en.b i d hk hg
      refine ⟨v, hv, ?_⟩
      rcases r with r | ⟨P, rfl, nm, r⟩
      · exact .inl (r.stp en.mok st)
      · exact .inr ⟨P, rfl, fun z => nm (msb P z), r.stp en.mok st nm⟩
    · rw [hk] at hm; cases hm
  · obtain ⟨d1, g1, _⟩ := sub i d (by rw [h1]; decide) h4
    obtain ⟨d2, g2, _⟩ := sub j d' (by rw [h2]; decide) h5
    exact en.ne i j d1 d2 P h1 h2 h3 g1 g2 h6
end
theorem l_call (X0 : XO T pg g q KK n B sc X) {f : Nat} {d0 : Df} {x : Str} {e : Expr} {es : List Expr} {px pos : Pos} {cs : List E} (hpl : T.pl.contains f = true) (hg : isG sc x = true) (ho : okN x = true) (hf : T.fns.lookup x = some f) (hd : pg.defs[f]? = some d0) (L : Lent mk d0.fi.kd cs) (ops : Ops X g mk (pg.prOf (pg.callN KK n)) cs (e :: es)) :
    PE X (.Call (.Name x px) (e :: es) [] pos) (rdE d0.fi.own g mk (evE (pg.prOf (pg.callN KK n)) (.call f cs []))) := by
  have hs : starEach (e :: es) X.env = (false, eval e X.env) :: starEach es X.env := by cases ops with | cons _ hn _ => exact star_ns hn _ _
  have hp : (backTo pos (starEach es X.env)).any (·.1) = false := by cases ops with | cons _ _ o => exact o.plain pos
  obtain ⟨m1, m2⟩ := X0.gf.nm x f hf
  refine PE.weak (pe_call (X0.gf.ok f d0 hd) (X0.room.mono (by omega)) (gl_of X0 hg) m1 m2 (X0.gf.bd f d0 hd hpl) .nil pass0 ops.pa (okN_of ho).1 hs hp) fun σ H Q hq => ?_
  obtain ⟨F, ev, en, hq⟩ := hq
  simp only [evE] at hq
  rcases R_cases (evEs (pg.prOf (pg.callN KK n)) cs ev) with ⟨ds, e1, he⟩ | ⟨y, e1, he⟩ | he <;> rw [he] at hq <;> simp only [R.bind] at hq
  all_goals first | exact hq.elim | skip
  cases hl : late cs ds e1 with
  | none => rw [hl] at hq; exact hq.elim
  | some ds' =>
    rw [hl] at hq
    simp only [List.append_nil] at hq
    have hfi : (pg.prOf (pg.callN KK n)).fi f = d0.fi := by
      show pg.fiOf f = _
      unfold Pg.fiOf
      rw [hd]
    rw [hfi] at hq
    refine ops_use en he fun F1 H1 vs a ar => ?_
    show spOf g d0.fi (pg.callN KK n f) (vs ++ []) H1 Q E0
    rw [List.append_nil]
    obtain ⟨hlen, _⟩ := ar.pt hl
    refine ⟨by rw [ar.lens.1, L.len], F1, ds', by rw [hlen, ar.lens.1], par_env L a.en ar hl, ?_⟩
    have hcall : (pg.prOf (pg.callN KK n)).call f ds' = pg.callN KK n f ds' := rfl
    rw [hcall] at hq
    cases hc : pg.callN KK n f ds' with
    | err y => rw [hc] at hq; exact hq.elim
    | bad => rw [hc] at hq; exact hq.elim
    | ok d outs =>
      rw [hc] at hq
      simp only [fin] at hq
      intro F2 H2 v e' hle b ho r
      subst ho
      refine hq F2 H2 v (a.trans (aft_call L a.en ar hl hle b)) ?_
      unfold RV at r ⊢
      split
      · rename_i hcc
        rw [if_pos hcc] at r
        obtain ⟨q, e1, hn, nf, ro⟩ := r
        exact ⟨q, e1, a.st.fresh hn, nf, ro⟩
      · rename_i hcc
        rw [if_neg hcc] at r
        exact r
end
end TE
/-! Te17: what a loop or a comprehension walks. -/
namespace TE
open PySem L2
mutual
theorem sameD_eq : ∀ {a b : D}, sameD a b = true → a = b
  | a, b, h => by
    cases a <;> cases b <;> first | (simp only [sameD] at h; cases h; done) | skip
    case non.non => rfl
    case bl.bl => simp only [sameD, beq_iff_eq] at h; rw [h]
    case int.int => simp only [sameD, beq_iff_eq] at h; rw [h]
    case str.str => simp only [sameD, beq_iff_eq] at h; rw [h]
    case tup.tup => simp only [sameD] at h; rw [sameDs_eq h]
    case lst.lst => simp only [sameD] at h; rw [sameDs_eq h]
    case dct.dct => simp only [sameD, Bool.and_eq_true] at h; rw [sameDs_eq h.1, sameDs_eq h.2]
    case obj.obj => simp only [sameD, Bool.and_eq_true, beq_iff_eq] at h; rw [h.1, sameDs_eq h.2]
    case cls.cls => simp only [sameD, beq_iff_eq] at h; rw [h]
    case ty.ty => simp only [sameD, beq_iff_eq] at h; rw [h]
    case scr.scr => simp only [sameD, beq_iff_eq] at h; rw [h]
theorem sameDs_eq : ∀ {a b : List D}, sameDs a b = true → a = b
  | [], [], _ => rfl
  | [], _ :: _, h => by simp only [sameDs] at h; cases h
  | _ :: _, [], h => by simp only [sameDs] at h; cases h
  | x :: xs, y :: ys, h => by
    simp only [sameDs, Bool.and_eq_true] at h
    rw [sameD_eq h.1, sameDs_eq h.2]
end
mutual
theorem sameD_refl : ∀ (a : D), sameD a a = true
  | .non => by simp [sameD]
  | .bl _ => by simp [sameD]
  | .int _ => by simp [sameD]
  | .str _ => by simp [sameD]
  | .tup xs => by simp only [sameD]; exact sameDs_refl xs
  | .lst xs => by simp only [sameD]; exact sameDs_refl xs
  | .dct ks vs => by simp only [sameD]; rw [sameDs_refl ks, sameDs_refl vs]; rfl
  | .obj C xs => by simp only [sameD]; rw [sameDs_refl xs]; simp
  | .cls _ => by simp [sameD]
  | .ty _ => by simp [sameD]
  | .scr _ => by simp [sameD]
theorem sameDs_refl : ∀ (a : List D), sameDs a a = true
  | [] => by simp [sameDs]
  | x :: xs => by simp only [sameDs]; rw [sameD_refl x, sameDs_refl xs]; rfl
end
/-- J walks xs at whatever comes later -/
def Wl (g : G) (mk : Nat → Kd) (σ0 : L2.St) (M F0 : Addr → Prop) (H0 : Hp) (J : L2.It) (xs : List D) (gs : List Nat) (gd : Ev → Bool) : Prop :=
  ∀ (F : Addr → Prop) (H : Hp) (σ : L2.St) (e : Ev), Stp M F0 H0 F H → REnv g mk F H σ e → (∀ i ∈ gs, ∀ v, σ[i]? = some (some v) → σ0[i]? = some (some v)) → gd e = true → ∀ i : Nat,
    (xs.length ≤ i → J.stop i H) ∧ ∀ x, xs[i]? = some x → J.go i H ∧ ∀ v H', J.yld i H v H' → Stp (fun _ => False) F H F H' ∧ Rep g F H' v x
def rdI (g : G) (mk : Nat → Kd) (p : Pr) (it : TE.It) : TI := fun σ H R => ∃ F e, REnv g mk F H σ e ∧ ∃ xs e1, evI p it e = .ok xs e1 ∧
  ∀ F' H' J, Aft g mk F H σ e F' H' e1 → Wl g mk σ (Ms mk σ e1) F' H' J xs (slI it) (gdI it xs) → R J H'
section
variable {T : Tb} {pg : Pg} {g : G} {q : Q9} {KK n : Nat} {B : Bl} {sc : Scope} {X : Cx} {p : Pr} {mk : Nat → Kd} {tg : Expr}
variable {M F F' : Addr → Prop} {H H' : Hp} {σ σ0 : L2.St} {e e' : Ev}
/-- lists, tuples, texts -/
def iAny (K : PySem.W.Frag) (tl : L2.TE) : TI := fun σ H R => tl σ H fun x H1 => (∃ a, x = .ref a ∧ (∃ xs, SqL K H1 a xs) ∧ R (Itl K a) H1) ∨ (∃ a, x = .ref a ∧ (∃ xs, SqT K H1 a xs) ∧ R (Itt K a) H1) ∨ ∃ s, x = .str s ∧ R (Its s) H1
theorem pi_any {l : Expr} {tl : L2.TE} (hl : PE X l tl) : PI X tg l (iAny X.K tl) := by
  refine ⟨fun pins s σ H R I h => ?_⟩
  refine thn (hl.run pins s σ H _ I h) fun v s1 ⟨x, H1, I1, r1, q1⟩ => ?_
  rcases q1 with ⟨a, e, ⟨xs, hq⟩, q⟩ | ⟨a, e, ⟨xs, hq⟩, q⟩ | ⟨x, ex, q⟩
  · subst e
    cases r1
    obtain ⟨its, rv, p, hz⟩ := I1.list hq
    refine wpAny_pyIter_list p.isList ?_
    exact pi_one (tk := s1.toks) I1 _ (turn_list a _) ⟨_, Heap.get?_push_size _ rfl, rfl, rfl⟩ q
  · subst e
    cases r1
    obtain ⟨its, rv, p, hz⟩ := I1.tuple hq
    refine wpAny_pyIter_tuple (show s1.heap.IsTuple a its.toArray from p) ?_
    exact pi_one (tk := s1.toks) I1 _ (turn_tuple a _) ⟨_, Heap.get?_push_size _ rfl, rfl, rfl⟩ q
  · subst ex
    obtain ⟨t, rfl⟩ := r1
    cases ha : x.cps.all (· < 128)
    · exact wpAny_pyIter_wide ha (pi_one (tk := s1.toks) I1 _ (turn_str _ x t "str_iterator" (.inr rfl)) ⟨_, Heap.get?_push_size _ rfl, rfl, rfl⟩ q)
    · exact wpAny_pyIter_ascii ha (pi_one (tk := s1.toks) I1 _ (turn_str _ x t "str_ascii_iterator" (.inl rfl)) ⟨_, Heap.get?_push_size _ rfl, rfl, rfl⟩ q)
theorem wl_list {a : Addr} {vs : List V} {xs : List D} {gs : List Nat} {gd : Ev → Bool} (m : MOk M F H) (h : H a = some (.lst vs)) (hM : ¬ M a) (r : Reps g F H vs xs) : Wl g mk σ0 M F H (Itl X.K a) xs gs gd := by
  intro F' H' σ e st en _ _ i
  have hq : SqL X.K H' a vs := SqL.of (st.kp a _ h hM)
  have r' := r.stp m st
  have hl := r.length
  refine ⟨fun hi => ⟨vs, hq, by omega⟩, fun x hx => ?_⟩
  obtain ⟨v, hv, rv⟩ := r'.get hx
  refine ⟨⟨vs, v, hq, hv⟩, fun w H2 hy => ?_⟩
  obtain ⟨rfl, hy⟩ := hy
  have := hy vs hq
  rw [hv] at this; cases this
  exact ⟨Stp.refl en.fd, rv⟩
theorem wl_tup {a : Addr} {vs : List V} {xs : List D} {gs : List Nat} {gd : Ev → Bool} (hK : g.K = X.K) (m : MOk M F H) (h : SqT g.K H a vs) (r : Reps g F H vs xs) : Wl g mk σ0 M F H (Itt X.K a) xs gs gd := by
  intro F' H' σ e st en _ _ i
  have hq : SqT X.K H' a vs := hK ▸ sqT_keep m st.kp h
  have r' := r.stp m st
  have hl := r.length
  refine ⟨fun hi => ⟨vs, hq, by omega⟩, fun x hx => ?_⟩
  obtain ⟨v, hv, rv⟩ := r'.get hx
  refine ⟨⟨vs, v, hq, hv⟩, fun w H2 hy => ?_⟩
  obtain ⟨rfl, hy⟩ := hy
  have := hy vs hq
  rw [hv] at this; cases this
  exact ⟨Stp.refl en.fd, rv⟩
theorem wl_str {s : List Nat} {gs : List Nat} {gd : Ev → Bool} : Wl g mk σ0 M F H (Its (tx s)) (s.map fun c => .str [c]) gs gd := by
  intro F' H' σ e st en _ _ i
  have hz : (tx s).cps.size = s.length := by simp [tx]
  have hg : ∀ i : Nat, (tx s).cps[i]? = s[i]? := fun i => by simp [tx]
  refine ⟨fun hi => ?_, fun x hx => ?_⟩
  · show (tx s).cps.size ≤ i
    rw [hz]; simpa using hi
  · rw [List.getElem?_map] at hx
    obtain ⟨c, hc, rfl⟩ := Option.map_eq_some_iff.mp hx
    refine ⟨?_, fun w H2 hy => ?_⟩
    · show i < (tx s).cps.size
      rw [hz]; exact (List.getElem?_eq_some_iff.mp hc).1
    · obtain ⟨rfl, c', hc', rfl⟩ := hy
      rw [hg, hc] at hc'; cases hc'
      exact ⟨Stp.refl en.fd, .str [c]⟩
theorem it_val {c : E} {l : Expr} {f1 : Bool} (X0 : XO T pg g q KK n B sc X) (h : PE X l (rdE f1 g mk (evE p c))) : PI X tg l (rdI g mk p (.val c)) := by
  refine PI.weak (pi_any h) fun σ H R hq => ?_
  obtain ⟨F, e, en, xs, e1, he, k⟩ := hq
  simp only [evI] at he
  obtain ⟨d, e2, h1, he⟩ := bind_ok he
  obtain ⟨hx, rfl⟩ := ofO_ok he
  refine use en ⟨d, _, h1, fun F1 H1 v af r => ?_⟩
  have m := af.en.mok
  cases d <;> first | (cases hx; done) | skip
  case lst ds =>
    cases hx
    cases r with
    | lst fa ha rs => exact .inl ⟨_, rfl, ⟨_, SqL.of ha⟩, k F1 H1 _ af (wl_list m ha (fun z => (m _ z).1 fa) rs)⟩
  case tup ds =>
    cases hx
    cases r with
    | tup ha rs => exact .inr (.inl ⟨_, rfl, ⟨_, X0.gf.hK ▸ ha⟩, k F1 H1 _ af (wl_tup X0.gf.hK m ha rs)⟩)
  case str s =>
    cases hx
    cases r
    exact .inr (.inr ⟨_, rfl, k F1 H1 _ af wl_str⟩)
theorem en_slot (en : REnv g mk F H σ e) {i : Nat} {d : D} (hg : get e i = some d) : ∃ v, σ[i]? = some (some v) := by
  cases hk : mk i with
  | n => obtain ⟨w, hw, _⟩ := en.n i d hk hg; exact ⟨w, hw⟩
  | m => obtain ⟨w, hw, _⟩ := en.m i d hk hg; exact ⟨_, hw⟩
  | b => obtain ⟨w, hw, _⟩ := en.b i d hk hg; exact ⟨w, hw⟩
theorem it_slot (X0 : XO T pg g q KK n B sc X) {i : Nat} {y : Str} {pos : Pos} (h1 : nsp B.N i y = true) (h2 : isV sc y = true) (h3 : okN y = true) : PI X tg (.Name y pos) (rdI g mk p (.slot i)) := by
  refine PI.weak (pi_list (l_name X0 h1 h2 h3)) fun σ H R hq => ?_
  obtain ⟨F, e, en, xs, e1, he, k⟩ := hq
  simp only [evI] at he
  cases hg : get e i with
  | none => rw [hg] at he; cases he
  | some d =>
    rw [hg] at he
    cases d <;> first | (cases he; done) | skip
    case lst ds =>
      cases he
      obtain ⟨v, hv⟩ := en_slot en hg
      obtain ⟨a, vs, rfl, ha, rs⟩ := (en.rr hg hv).lst
      refine ⟨.ref a, hv, a, rfl, ⟨vs, SqL.of ha⟩, k F H _ (.refl en) ?_⟩
      intro F' H' σ' e' st en' hs hgd j
      have hgd : gdI (.slot i) xs e' = true := hgd
      simp only [gdI] at hgd
      cases hg' : get e' i with
      | none => rw [hg'] at hgd; cases hgd
      | some d' =>
        rw [hg'] at hgd
        cases d' <;> first | (cases hgd; done) | skip
        case lst ds' =>
          have := sameDs_eq hgd
          subst this
          obtain ⟨v', hv'⟩ := en_slot en' hg'
          have := hs i (by simp [slI]) v' hv'
          rw [hv] at this; cases this
          obtain ⟨a', vs', ea, ha', rs'⟩ := (en'.rr hg' hv').lst
          cases ea
          have hq : SqL X.K H' a vs' := SqL.of ha'
          have hl := rs'.length
          refine ⟨fun hi => ⟨vs', hq, by omega⟩, fun x hx => ?_⟩
          obtain ⟨v, hv, rv⟩ := rs'.get hx
          refine ⟨⟨vs', v, hq, hv⟩, fun w H2 hy => ?_⟩
          obtain ⟨rfl, hy⟩ := hy
          have := hy vs' hq
          rw [hv] at this; cases this
          exact ⟨Stp.refl en'.fd, rv⟩
theorem rng_ok {a b : Int} {xs : List D} (h : rngD a b = some xs) : -1000000 ≤ a ∧ a ≤ 1000000 ∧ -1000000 ≤ b ∧ b ≤ 1000000 ∧ xs = (List.range (b - a).toNat).map fun k => .int (a + (k : Nat)) := by
  unfold rngD at h
  obtain ⟨hc, h2⟩ := ite_some h
  simp only [Bool.and_eq_true, decide_eq_true_eq] at hc
  exact ⟨hc.1.1.1, hc.1.1.2, hc.1.2, hc.2, h2.symm⟩
theorem wl_rng {a b : Int} {gs : List Nat} {gd : Ev → Bool} : Wl g mk σ0 M F H (Itr a (b - a).toNat) ((List.range (b - a).toNat).map fun k => .int (a + (k : Nat))) gs gd := by
  intro F' H' σ e st en _ _ i
  refine ⟨fun hi => ?_, fun x hx => ?_⟩
  · show (b - a).toNat ≤ i
    simpa using hi
  · rw [List.getElem?_map] at hx
    obtain ⟨c, hc, rfl⟩ := Option.map_eq_some_iff.mp hx
    obtain ⟨h1, h2⟩ := List.getElem?_eq_some_iff.mp hc
    have : c = i := by rw [List.getElem_range] at h2; exact h2.symm
    subst this
    refine ⟨?_, fun w H2 hy => ?_⟩
    · show c < (b - a).toNat
      simpa using h1
    · obtain ⟨rfl, rfl⟩ := hy
      exact ⟨Stp.refl en.fd, .int _⟩
theorem it_rng {c : E} {a : Expr} {f1 : Bool} {x : Str} {px pos : Pos} (X0 : XO T pg g q KK n B sc X) (hx : (x == "range" && gname T sc x) = true) (hn : nst a = true) (h : PE X a (rdE f1 g mk (evE p c))) : PI X tg (.Call (.Name x px) [a] [] pos) (rdI g mk p (.rng c)) := by
  simp only [Bool.and_eq_true, beq_iff_eq] at hx
  obtain ⟨rfl, hx⟩ := hx
  obtain ⟨h1, h2, h3, h4⟩ := gname_of X0 hx
  refine PI.weak (pi_range1 h1 h2 (pa_cons h pa_nil (star_ns hn _ _)) (star_ns hn _ _)) fun σ H R hq => ?_
  obtain ⟨F, e, en, xs, e1, he, k⟩ := hq
  simp only [evI] at he
  obtain ⟨d, e2, h1, he⟩ := bind_ok he
  cases d <;> first | (cases he; done) | skip
  case int j =>
    obtain ⟨hr, rfl⟩ := ofO_ok he
    obtain ⟨_, _, b1, b2, rfl⟩ := rng_ok hr
    refine use en ⟨_, _, h1, fun F1 H1 v af r => ?_⟩
    cases r
    have hw := k F1 H1 (Itr 0 (j - 0).toNat) af wl_rng
    refine ⟨j, rfl, by omega, by omega, ?_⟩
    rw [show j.toNat = (j - 0).toNat by congr 1; omega]
    exact hw
theorem it_rng2 {c c' : E} {a b : Expr} {f1 f2 : Bool} {x : Str} {px pos : Pos} (X0 : XO T pg g q KK n B sc X) (hx : (x == "range" && gname T sc x) = true) (hn : nst a = true) (hn' : nst b = true) (h : PE X a (rdE f1 g mk (evE p c))) (h' : PE X b (rdE f2 g mk (evE p c'))) : PI X tg (.Call (.Name x px) [a, b] [] pos) (rdI g mk p (.rng2 c c')) := by
  simp only [Bool.and_eq_true, beq_iff_eq] at hx
  obtain ⟨rfl, hx⟩ := hx
  obtain ⟨h1, h2, h3, h4⟩ := gname_of X0 hx
  have s2 : starEach [b] X.env = [(false, eval b X.env)] := star_ns hn' _ _
  have s1 : starEach [a, b] X.env = [(false, eval a X.env), (false, eval b X.env)] := by rw [star_ns hn _ _, s2]
  refine PI.weak (pi_range2 h1 h2 (pa_cons h (pa_cons h' pa_nil (star_ns hn' _ _)) (star_ns hn _ _)) s1 s2) fun σ H R hq => ?_
  obtain ⟨F, e, en, xs, e1, he, k⟩ := hq
  simp only [evI] at he
  obtain ⟨d, e2, h1, he⟩ := bind_ok he
  obtain ⟨d', e3, h2, he⟩ := bind_ok he
  cases d <;> cases d' <;> first | (cases he; done) | skip
  rename_i i _ j
  obtain ⟨hr, rfl⟩ := ofO_ok he
  obtain ⟨b1, b2, b3, b4, rfl⟩ := rng_ok hr
  refine use en ⟨_, _, h1, fun F1 H1 v af r => use af.en ⟨_, _, h2, fun F2 H2 w af' r' => ?_⟩⟩
  cases r; cases r'
  exact ⟨i, j, rfl, ⟨by omega, by omega, by omega, by omega⟩, k F2 H2 _ (af.trans af') wl_rng⟩
theorem enumF_get : ∀ {k : Nat} {ds : List D} {i : Nat}, (enumF k ds)[i]? = (ds[i]?).map fun d => .tup [.int ((k + i : Nat) : Int), d]
  | _, [], _ => by simp [enumF]
  | k, d :: ds, 0 => by simp [enumF]
  | k, d :: ds, i + 1 => by
    simp only [enumF, List.getElem?_cons_succ]
    rw [enumF_get]
    rw [show k + 1 + i = k + (i + 1) by omega]
theorem enumF_len : ∀ {k : Nat} {ds : List D}, (enumF k ds).length = ds.length
  | _, [] => rfl
  | k, d :: ds => by simp [enumF, enumF_len]
theorem isTup_of {e : Expr} (h : isTup e = true) : ∃ es k pos, e = .Tuple es k pos := by
  cases e <;> first | (cases h; done) | exact ⟨_, _, _, rfl⟩
theorem it_enu {c : E} {a : Expr} {f1 : Bool} {x : Str} {px pos : Pos} (X0 : XO T pg g q KK n B sc X) (ht : isTup tg = true) (hx : (x == "enumerate" && gname T sc x) = true) (hn : nst a = true) (h : PE X a (rdE f1 g mk (evE p c))) : PI X tg (.Call (.Name x px) [a] [] pos) (rdI g mk p (.enu c)) := by
  simp only [Bool.and_eq_true, beq_iff_eq] at hx
  obtain ⟨rfl, hx⟩ := hx
  obtain ⟨h1, h2, h3, h4⟩ := gname_of X0 hx
  obtain ⟨es, kk, tpos, rfl⟩ := isTup_of ht
  refine PI.weak (pi_enum h1 h2 (pa_cons h pa_nil (star_ns hn _ _)) (star_ns hn _ _)) fun σ H R hq => ?_
  obtain ⟨F, e, en, xs, e1, he, k⟩ := hq
  simp only [evI] at he
  obtain ⟨d, e2, h1, he⟩ := bind_ok he
  obtain ⟨hx, rfl⟩ := ofO_ok he
  cases d <;> first | (cases hx; done) | skip
  case lst ds =>
    cases hx
    refine use en ⟨_, _, h1, fun F1 H1 v af r => ?_⟩
    cases r with
    | @lst a vs _ fa ha rs =>
      have m := af.en.mok
      refine ⟨a, vs, rfl, SqL.of ha, k F1 H1 _ af ?_⟩
      intro F' H' σ' e' st en' _ _ i
      have hq : SqL X.K H' a vs := SqL.of (st.kp a _ ha fun z => (m _ z).1 fa)
      have r' := rs.stp m st
      have hl := rs.length
      refine ⟨fun hi => ⟨vs, hq, by rw [enumF_len] at hi; omega⟩, fun x hx => ?_⟩
      rw [enumF_get] at hx
      obtain ⟨d, hd, rfl⟩ := Option.map_eq_some_iff.mp hx
      obtain ⟨v, hv, rv⟩ := r'.get hd
      refine ⟨⟨vs, v, hq, hv⟩, fun w H2 hy => ?_⟩
      obtain ⟨T', x', rfl, hT, rfl, hy⟩ := hy
      have := hy vs hq
      rw [hv] at this; cases this
      have s := stp_new (o := HO.tup [.int (i : Nat), v]) en'.fd hT
      refine ⟨s, .tup (.inl (.inl upd_same)) (.cons ?_ (.cons (rv.stp mok0 s) .nil))⟩
      rw [Nat.zero_add]; exact .int _
theorem zipF_len : ∀ {xs ys : List D}, (zipF xs ys).length = min xs.length ys.length
  | [], _ => by simp [zipF]
  | _ :: _, [] => by simp [zipF]
  | _ :: xs, _ :: ys => by simp [zipF, zipF_len]
theorem zipF_get : ∀ {xs ys : List D} {i : Nat} {z : D}, (zipF xs ys)[i]? = some z → ∃ x y, xs[i]? = some x ∧ ys[i]? = some y ∧ z = .tup [x, y]
  | [], _, _, _, h => by simp [zipF] at h
  | _ :: _, [], _, _, h => by simp [zipF] at h
  | x :: xs, y :: ys, 0, z, h => by
    simp only [zipF, List.getElem?_cons_zero, Option.some.injEq] at h
    exact ⟨x, y, rfl, rfl, h.symm⟩
  | x :: xs, y :: ys, i + 1, z, h => by
    simp only [zipF, List.getElem?_cons_succ] at h ⊢
    exact zipF_get h
theorem it_zip {c c' : E} {a b : Expr} {f1 f2 : Bool} {x : Str} {px pos : Pos} (X0 : XO T pg g q KK n B sc X) (ht : isTup tg = true) (hx : (x == "zip" && gname T sc x) = true) (hn : nst a = true) (hn' : nst b = true) (h : PE X a (rdE f1 g mk (evE p c))) (h' : PE X b (rdE f2 g mk (evE p c'))) : PI X tg (.Call (.Name x px) [a, b] [] pos) (rdI g mk p (.zip c c')) := by
  simp only [Bool.and_eq_true, beq_iff_eq] at hx
  obtain ⟨rfl, hx⟩ := hx
  obtain ⟨h1, h2, h3, h4⟩ := gname_of X0 hx
  obtain ⟨es, kk, tpos, rfl⟩ := isTup_of ht
  have s2 : starEach [b] X.env = [(false, eval b X.env)] := star_ns hn' _ _
  refine PI.weak (RZ.pi_zipA h1 h2 (pa_cons h (pa_cons h' pa_nil (star_ns hn' _ _)) (star_ns hn _ _)) (star_ns hn _ _) (by rw [s2]; rfl)) fun σ H R hq => ?_
  obtain ⟨F, e, en, xs, e1, he, k⟩ := hq
  simp only [evI] at he
  obtain ⟨d, e2, h1, he⟩ := bind_ok he
  obtain ⟨d', e3, h2, he⟩ := bind_ok he
  obtain ⟨hx, rfl⟩ := ofO_ok he
  refine use en ⟨_, _, h1, fun F1 H1 v af r => use af.en ⟨_, _, h2, fun F2 H2 w af' r' => ?_⟩⟩
  have r := r.stp af.en.mok af'.st
  have m := af'.en.mok
  have K := k F2 H2
  cases d <;> first | (cases hx; done) | skip
  all_goals cases d' <;> first | (cases hx; done) | skip
  case lst.lst ds ds' =>
    cases hx
    cases r with
    | @lst a vs _ fa ha rs =>
    cases r' with
    | @lst a' vs' _ fa' ha' rs' =>
      refine ⟨a, a', vs, vs', rfl, .inl ⟨SqL.of ha, SqL.of ha', K _ (af.trans af') ?_⟩⟩
      intro F' H' σ' e' st en' _ _ i
      have hq : SqL X.K H' a vs := SqL.of (st.kp a _ ha fun z => (m _ z).1 fa)
      have hq' : SqL X.K H' a' vs' := SqL.of (st.kp a' _ ha' fun z => (m _ z).1 fa')
      have t := rs.stp m st
      have t' := rs'.stp m st
      have hl := rs.length
      have hl' := rs'.length
      refine ⟨fun hi => ⟨vs, vs', hq, hq', by rw [zipF_len] at hi; omega⟩, fun x hx => ?_⟩
      obtain ⟨d1, d2, g1, g2, rfl⟩ := zipF_get hx
      obtain ⟨v, hv, rv⟩ := t.get g1
      obtain ⟨v', hv', rv'⟩ := t'.get g2
      refine ⟨⟨vs, vs', v, v', hq, hq', hv, hv'⟩, fun w H2 hy => ?_⟩
      obtain ⟨T', x1, x2, rfl, hT, rfl, hy, hy'⟩ := hy
      have e1 := hy vs hq
      have e2 := hy' vs' hq'
      rw [hv] at e1; cases e1
      rw [hv'] at e2; cases e2
      have s := stp_new (o := HO.tup [v, v']) en'.fd hT
      exact ⟨s, .tup (.inl (.inl upd_same)) (.cons (rv.stp mok0 s) (.cons (rv'.stp mok0 s) .nil))⟩
  case tup.tup ds ds' =>
    cases hx
    cases r with
    | @tup a vs _ ha rs =>
    cases r' with
    | @tup a' vs' _ ha' rs' =>
      refine ⟨a, a', vs, vs', rfl, .inr ⟨X0.gf.hK ▸ ha, X0.gf.hK ▸ ha', K _ (af.trans af') ?_⟩⟩
      intro F' H' σ' e' st en' _ _ i
      have hq : SqT X.K H' a vs := X0.gf.hK ▸ sqT_keep m st.kp ha
      have hq' : SqT X.K H' a' vs' := X0.gf.hK ▸ sqT_keep m st.kp ha'
      have t := rs.stp m st
      have t' := rs'.stp m st
      have hl := rs.length
      have hl' := rs'.length
      refine ⟨fun hi => ⟨vs, vs', hq, hq', by rw [zipF_len] at hi; omega⟩, fun x hx => ?_⟩
      obtain ⟨d1, d2, g1, g2, rfl⟩ := zipF_get hx
      obtain ⟨v, hv, rv⟩ := t.get g1
      obtain ⟨v', hv', rv'⟩ := t'.get g2
      refine ⟨⟨vs, vs', v, v', hq, hq', hv, hv'⟩, fun w H2 hy => ?_⟩
      obtain ⟨T', x1, x2, rfl, hT, rfl, hy, hy'⟩ := hy
      have e1 := hy vs hq
      have e2 := hy' vs' hq'
      rw [hv] at e1; cases e1
      rw [hv'] at e2; cases e2
      have s := stp_new (o := HO.tup [v, v']) en'.fd hT
      exact ⟨s, .tup (.inl (.inl upd_same)) (.cons (rv.stp mok0 s) (.cons (rv'.stp mok0 s) .nil))⟩
end
end TE
/-! Te18: slots set; list comprehensions. -/
namespace TE
open PySem L2
section
variable {g : G} {mk : Nat → Kd} {M M' F F1 F' : Addr → Prop} {H H1 H' : Hp} {σ σ' σ1 : L2.St} {e e' e1 : Ev}
/-- slots that are not plain stand as they stood -/
structure Off (mk : Nat → Kd) (σ : L2.St) (e : Ev) (σ' : L2.St) (e' : Ev) : Prop where
  s : ∀ j, mk j ≠ .n → σ'[j]? = σ[j]?
  e : ∀ j, mk j ≠ .n → get e' j = get e j
theorem Off.ms (o : Off mk σ e σ' e') {p : Addr} : Ms mk σ' e' p ↔ Ms mk σ e p := by
  constructor
  · rintro ⟨i, d, h1, h2, h3⟩
    have hn : mk i ≠ .n := by rw [h1]; decide
    exact ⟨i, d, h1, by rw [← o.e i hn]; exact h2, by rw [← o.s i hn]; exact h3⟩
  · rintro ⟨i, d, h1, h2, h3⟩
    have hn : mk i ≠ .n := by rw [h1]; decide
    exact ⟨i, d, h1, by rw [o.e i hn]; exact h2, by rw [o.s i hn]; exact h3⟩
theorem Off.sub (o : Off mk σ e σ' e') : Sub mk e e' := fun i d hn h => ⟨d, by rw [← o.e i hn]; exact h, fun _ => rfl⟩
theorem Off.symm (o : Off mk σ e σ' e') : Off mk σ' e' σ e := ⟨fun j h => (o.s j h).symm, fun j h => (o.e j h).symm⟩
theorem Off.env (o : Off mk σ e σ' e') (en : REnv g mk F H σ e) (hn : ∀ j d, mk j = .n → get e' j = some d → ∃ v, σ'[j]? = some (some v) ∧ Rep g F H v d) (hl : e'.length ≤ σ'.length) : REnv g mk F H σ' e' := by
  refine ⟨en.fd, hn, fun j d h1 h2 => ?_, fun j d h1 h2 => ?_, fun i j d d' P h1 h2 h3 h4 h5 h6 => ?_, hl⟩
  · have z : mk j ≠ .n := by rw [h1]; decide
    rw [o.e j z] at h2; rw [o.s j z]
    exact en.m j d h1 h2
  · have z : mk j ≠ .n := by rw [h1]; decide
    rw [o.e j z] at h2; rw [o.s j z]
    obtain ⟨v, hv, r⟩ := en.b j d h1 h2
    refine ⟨v, hv, ?_⟩
    rcases r with r | ⟨p, e0, nm, r⟩
    · exact .inl r
    · exact .inr ⟨p, e0, fun q => nm (o.ms.mp q), r⟩
  · have z : mk i ≠ .n := by rw [h1]; decide
    have z' : mk j ≠ .n := by rw [h2]; decide
    rw [o.e i z] at h4; rw [o.e j z'] at h5; rw [o.s i z] at h6; rw [o.s j z']
    exact en.ne i j d d' P h1 h2 h3 h4 h5 h6
theorem set_off {i : Nat} (hk : mk i = .n) {v : Option V} {d : Option D} : Off mk σ e (σ.set i v) (e.set i d) := ⟨fun j hj => by
  have z : i ≠ j := fun z => hj (by rw [← z]; exact hk)
  rw [List.getElem?_set_ne z], fun j hj => by
  have z : i ≠ j := fun z => hj (by rw [← z]; exact hk)
  rw [get_set, if_neg z]⟩
theorem set_n (en : REnv g mk F H σ e) {i : Nat} {v : V} {d : D} (hk : mk i = .n) (r : Rep g F H v d) : REnv g mk F H (σ.set i (some v)) (e.set i (some d)) := by
  refine (set_off hk).env en (fun j d' h1 h2 => ?_) (by rw [List.length_set, List.length_set]; exact en.len)
  rw [get_set] at h2
  by_cases z : i = j
  · subst z
    rw [if_pos rfl] at h2
    split at h2
    · rename_i hl
      cases h2
      have := en.len
      exact ⟨v, List.getElem?_set_self (by omega), r⟩
    · cases h2
  · rw [if_neg z] at h2
    obtain ⟨w, hw, x⟩ := en.n j d' h1 h2
    exact ⟨w, by rw [List.getElem?_set_ne z]; exact hw, x⟩
/-! ### targets -/
def gNs : List Nat → TGs
  | [] => gNil
  | i :: is => gCons (gName i) (gNs is)
def gTg (K : PySem.W.Frag) : Tg → L2.TG
  | .nm i => gName i
  | .tp is => gTup K is.length (gNs is)
def setS : List Nat → List V → L2.St → L2.St
  | i :: is, v :: vs, σ => setS is vs (σ.set i (some v))
  | _, _, σ => σ
theorem gNs_use : ∀ {is : List Nat} {vs : List V} {σ : L2.St} {H : Hp} {Q : L2.St → Hp → Prop}, vs.length = is.length → Q (setS is vs σ) H → gNs is vs σ H Q
  | [], [], _, _, _, _, q => ⟨rfl, q⟩
  | [], _ :: _, _, _, _, h, _ => by simp at h
  | _ :: _, [], _, _, _, h, _ => by simp at h
  | i :: is, v :: vs, σ, H, Q, h, q => ⟨v, vs, rfl, gNs_use (by simpa using h) q⟩
theorem setS_out : ∀ {is : List Nat} {vs : List V} {σ : L2.St} {j : Nat}, j ∉ is → (setS is vs σ)[j]? = σ[j]?
  | [], _, _, _, _ => by simp [setS]
  | _ :: _, [], _, _, _ => by simp [setS]
  | i :: is, v :: vs, σ, j, h => by
    simp only [List.mem_cons, not_or] at h
    show (setS is vs (σ.set i (some v)))[j]? = _
    rw [setS_out h.2, List.getElem?_set_ne (fun z => h.1 z.symm)]
theorem setS_len : ∀ {is : List Nat} {vs : List V} {σ : L2.St}, (setS is vs σ).length = σ.length
  | [], _, _ => by simp [setS]
  | _ :: _, [], _ => by simp [setS]
  | i :: is, v :: vs, σ => by
    show (setS is vs (σ.set i (some v))).length = _
    rw [setS_len, List.length_set]
theorem setTs_ok : ∀ {is : List Nat} {vs : List V} {ds : List D} {σ : L2.St} {e e' : Ev}, REnv g mk F H σ e → (∀ i ∈ is, mk i = .n) → Reps g F H vs ds → setTs is ds e = some e' → REnv g mk F H (setS is vs σ) e' ∧ Off mk σ e (setS is vs σ) e' ∧ vs.length = is.length
  | [], _, _, σ, e, e', en, _, .nil, h => by
    cases h
    exact ⟨en, ⟨fun _ _ => rfl, fun _ _ => rfl⟩, rfl⟩
  | [], _, _, _, _, _, _, _, .cons _ _, h => by cases h
  | _ :: _, _, _, _, _, _, _, _, .nil, h => by cases h
  | i :: is, _, _, σ, e, e', en, hk, .cons (v := v) (d := d) r rs, h => by
    have h1 := hk i List.mem_cons_self
    obtain ⟨a, b, c⟩ := setTs_ok (set_n en h1 r) (fun j hj => hk j (List.mem_cons_of_mem _ hj)) rs h
    have o := set_off (σ := σ) (e := e) (v := some v) (d := some d) h1
    exact ⟨a, ⟨fun j hj => (b.s j hj).trans (o.s j hj), fun j hj => (b.e j hj).trans (o.e j hj)⟩, congrArg (· + 1) c⟩
/-- a target set -/
theorem tg_use {K : PySem.W.Frag} (hK : g.K = K) {t : Tg} {v : V} {d : D} {Q : L2.St → Hp → Prop} (en : REnv g mk F H σ e) (hk : ∀ i ∈ tgSlots t, mk i = .n) (r : Rep g F H v d) (h : setT t d e = some e')
    (k : ∀ σ', REnv g mk F H σ' e' → Off mk σ e σ' e' → (∀ j, j ∉ tgSlots t → σ'[j]? = σ[j]?) → σ'.length = σ.length → Q σ' H) : gTg K t v σ H Q := by
  cases t with
  | nm i =>
    cases h
    have h1 := hk i (by simp [tgSlots])
    refine k _ (set_n en h1 r) (set_off h1) (fun j hj => ?_) (List.length_set ..)
    rw [List.getElem?_set_ne (fun z => hj (by rw [z]; simp [tgSlots]))]
  | tp is =>
    cases d <;> first | (cases h; done) | skip
    case tup ds =>
      cases r with
      | tup ha rs =>
        obtain ⟨a, b, c⟩ := setTs_ok en hk rs h
        exact ⟨_, _, rfl, hK ▸ ha, c, gNs_use c (k _ a b (fun j hj => setS_out hj) setS_len)⟩
end
section
variable {T : Tb} {pg : Pg} {g : G} {q : Q9} {KK n : Nat} {B : Bl} {sc : Scope} {X : Cx} {p : Pr} {mk : Nat → Kd} {fnc : Str → Bool}
theorem set_loc (X0 : XO T pg g q KK n B sc X) (hf : ∀ x, fnc x = true → X.fn x = true) {x : Str} (h : isSet sc fnc x = true) : Loc X.env.scope x ∧ (X.fn x = true ∨ X.env.scope.names.lookup x = some .local) := by
  unfold isSet at h
  rw [X0.sc]
  split at h
  · rename_i hl; exact ⟨.inl hl, .inr hl⟩
  · rename_i hl; exact ⟨.inr hl, .inl (hf x h)⟩
  · cases h
theorem tgN_of {B : Bl} {sc : Scope} {i : Nat} {e : Expr} (h : tgN B sc fnc i e = true) : ∃ x pos, e = .Name x pos ∧ B.N[i]? = some x ∧ isSet sc fnc x = true ∧ B.mk' i = .n := by
  unfold tgN at h
  split at h
  · simp only [Bool.and_eq_true, beq_iff_eq] at h
    exact ⟨_, _, rfl, nsp_of h.1.1, h.1.2, h.2⟩
  · cases h
theorem l_tgN (X0 : XO T pg g q KK n B sc X) (hf : ∀ x, fnc x = true → X.fn x = true) {i : Nat} {e : Expr} (h : tgN B sc fnc i e = true) : PG X e (gName i) := by
  obtain ⟨x, pos, rfl, h1, h2, h3⟩ := tgN_of h
  obtain ⟨a, b⟩ := set_loc X0 hf h2
  exact pg_name (by rw [X0.N]; exact X0.nd) (by rw [X0.N]; exact h1) a b
theorem l_tgs (X0 : XO T pg g q KK n B sc X) (hf : ∀ x, fnc x = true → X.fn x = true) : ∀ {is : List Nat} {es : List Expr}, all2 (tgN B sc fnc) is es = true → PGs X es (gNs is) ∧ (assignEach es X.env).length = is.length ∧ (assignEach es X.env).findIdx? (·.1) = none ∧ ∀ i ∈ is, B.mk' i = .n
  | [], [], _ => ⟨pgs_nil, rfl, rfl, fun _ h => by cases h⟩
  | [], _ :: _, h => by cases h
  | _ :: _, [], h => by cases h
  | i :: is, e :: es, h => by
    simp only [all2, Bool.and_eq_true] at h
    obtain ⟨a, b, c, d⟩ := l_tgs X0 hf h.2
    obtain ⟨x, pos, rfl, h1, h2, h3⟩ := tgN_of h.1
    refine ⟨pgs_cons (l_tgN X0 hf h.1) a rfl, congrArg (· + 1) b, ?_, fun j hj => ?_⟩
    · show List.findIdx? (·.1) ((false, _) :: assignEach es X.env) = none
      rw [List.findIdx?_cons, c]; rfl
    · rcases List.mem_cons.mp hj with rfl | hj
      · exact h3
      · exact d j hj
theorem l_tg (X0 : XO T pg g q KK n B sc X) (hf : ∀ x, fnc x = true → X.fn x = true) {t : Tg} {e : Expr} (h : tgOk B sc fnc t e = true) : PG X e (gTg X.K t) ∧ ∀ i ∈ tgSlots t, B.mk' i = .n := by
  cases t with
  | nm i =>
    have h : tgN B sc fnc i e = true := h
    refine ⟨l_tgN X0 hf h, fun j hj => ?_⟩
    obtain ⟨x, pos, _, h1, h2, h3⟩ := tgN_of h
    have : j = i := by simpa [tgSlots] using hj
    rw [this]; exact h3
  | tp is =>
    cases e <;> first | (cases h; done) | skip
    case Tuple es k pos =>
      simp only [tgOk, Bool.and_eq_true] at h
      obtain ⟨a, b, c, d⟩ := l_tgs X0 hf h.1.1
      exact ⟨pg_tup X0.calm a b c, d⟩
end
end TE
/-! Te19: list comprehensions. -/
namespace TE
open PySem L2
theorem slots_snd {N : List Str} : ∀ {own : List Nat}, (slotsOf N own).map (·.2) = own
  | [] => rfl
  | i :: is => by
    show i :: (slotsOf N is).map (·.2) = _
    rw [slots_snd]
theorem wipe_get {σ : L2.St} {j : Nat} : ∀ {vs : List Nat}, (wipe σ vs)[j]? = if j ∈ vs then (if j < σ.length then some none else none) else σ[j]?
  | [] => by simp [wipe]
  | v :: vs => by
    unfold wipe
    rw [List.getElem?_set, wipe_get]
    by_cases h : v = j
    · subst h
      simp [wipe_length]
    · rw [if_neg h]
      by_cases h2 : j ∈ vs
      · rw [if_pos h2, if_pos (List.mem_cons_of_mem _ h2)]
      · rw [if_neg h2, if_neg (by simp only [List.mem_cons, not_or]; exact ⟨fun z => h z.symm, h2⟩)]
theorem wipeE_len {e : Ev} : ∀ {vs : List Nat}, (wipeE e vs).length = e.length
  | [] => rfl
  | v :: vs => by unfold wipeE; rw [List.length_set, wipeE_len]
theorem wipeE_get {e : Ev} {j : Nat} : ∀ {vs : List Nat}, get (wipeE e vs) j = if j ∈ vs then none else get e j
  | [] => by simp [wipeE]
  | v :: vs => by
    unfold wipeE
    rw [get_set, wipeE_get]
    by_cases h : v = j
    · subst h
      simp
    · rw [if_neg h]
      by_cases h2 : j ∈ vs
      · rw [if_pos h2, if_pos (List.mem_cons_of_mem _ h2)]
      · rw [if_neg h2, if_neg (by simp only [List.mem_cons, not_or]; exact ⟨fun z => h z.symm, h2⟩)]
theorem backE_len {e0 e : Ev} : ∀ {vs : List Nat}, (backE e0 e vs).length = e.length
  | [] => rfl
  | v :: vs => by unfold backE; rw [List.length_set, backE_len]
theorem backE_get {e0 e : Ev} {j : Nat} : ∀ {vs : List Nat}, get (backE e0 e vs) j = if j ∈ vs then (if j < e.length then get e0 j else none) else get e j
  | [] => by simp [backE]
  | v :: vs => by
    unfold backE
    rw [get_set, backE_get]
    by_cases h : v = j
    · subst h
      simp only [if_true, List.mem_cons_self, backE_len]
      rfl
    · rw [if_neg h]
      by_cases h2 : j ∈ vs
      · rw [if_pos h2, if_pos (List.mem_cons_of_mem _ h2)]
      · rw [if_neg h2, if_neg (by simp only [List.mem_cons, not_or]; exact ⟨fun z => h z.symm, h2⟩)]
section
variable {g : G} {mk : Nat → Kd} {M M' F F1 F' : Addr → Prop} {H H1 H' : Hp} {σ σ' σ1 : L2.St} {e e' e1 : Ev}
theorem wipe_off {own : List Nat} (ho : ∀ i ∈ own, mk i = .n) : Off mk σ e (wipe σ own) (wipeE e own) := ⟨fun j hj => by
  rw [wipe_get, if_neg fun z => hj (ho j z)], fun j hj => by
  rw [wipeE_get, if_neg fun z => hj (ho j z)]⟩
theorem wipe_env {own : List Nat} (ho : ∀ i ∈ own, mk i = .n) (en : REnv g mk F H σ e) : REnv g mk F H (wipe σ own) (wipeE e own) := by
  refine (wipe_off ho).env en (fun j d h1 h2 => ?_) (by rw [wipeE_len, wipe_length]; exact en.len)
  rw [wipeE_get] at h2
  split at h2
  · cases h2
  · rename_i hj
    rw [wipe_get, if_neg hj]
    exact en.n j d h1 h2
/-- a new object of the block's own, written -/
theorem en_upd {D : Addr} {o' : HO} (en1 : REnv g mk F1 H1 σ1 e1) (hD : H1 D = none) (en : REnv g mk F H σ e) (st : Stp (Ms mk σ1 e1) F1 H1 F H) (sub : Sub mk e1 e) (hσ : ∀ j, mk j ≠ .n → σ[j]? = σ1[j]?) (hH : ∃ o, H D = some o ∧ mutO o) (nF : ¬ F D) :
    REnv g mk F (upd H D o') σ e ∧ MOk (fun a => a = D) F H ∧ Stp (fun a => a = D) F H F (upd H D o') := by
  have m0 : MOk (fun a => a = D) F H := fun a ha => by rw [ha]; exact ⟨nF, hH⟩
  obtain ⟨oD, hoD, _⟩ := hH
  have s0 : Stp (fun a => a = D) F H F (upd H D o') := ⟨fun _ h => h, fun _ h => .inl h, fun a u h n => by rw [upd_ne n]; exact h, fun a u h => by
    by_cases z : a = D
    · exact ⟨o', by rw [z, upd_same]⟩
    · exact ⟨u, by rw [upd_ne z]; exact h⟩, fun a h => by
    obtain ⟨u, hu⟩ := en.fd a h
    by_cases z : a = D
    · exact ⟨o', by rw [z, upd_same]⟩
    · exact ⟨u, by rw [upd_ne z]; exact hu⟩⟩
  have ms : ∀ p, Ms mk σ e p → Ms mk σ1 e1 p := fun p ⟨i, d, h1, h2, h3⟩ => by
    obtain ⟨d1, h4, _⟩ := sub i d (by rw [h1]; decide) h2
    exact ⟨i, d1, h1, h4, by rw [← hσ i (by rw [h1]; decide)]; exact h3⟩
  have neM : ∀ p, Ms mk σ1 e1 p → p ≠ D := fun p h z => by
    obtain ⟨_, o, ho, _⟩ := en1.mok p h
    rw [z, hD] at ho; cases ho
  refine ⟨⟨s0.fd, fun i d h1 h2 => ?_, fun i d h1 h2 => ?_, fun i d h1 h2 => ?_, en.ne, en.len⟩, m0, s0⟩
  · obtain ⟨v, hv, r⟩ := en.n i d h1 h2
    exact ⟨v, hv, r.stp m0 s0⟩
  · obtain ⟨p, hp, nf, r⟩ := en.m i d h1 h2
    exact ⟨p, hp, nf, r.stp m0 s0 (neM p (ms p ⟨i, d, h1, h2, hp⟩))⟩
  · have hb : mk i ≠ .n := by rw [h1]; decide
    obtain ⟨d1, h4, hd⟩ := sub i d hb h2
    have hd := hd h1
    subst hd
    obtain ⟨v, hv, r⟩ := en1.b i _ h1 h4
    refine ⟨v, by rw [hσ i hb]; exact hv, ?_⟩
    rcases r with r | ⟨p, rfl, nm, r⟩
    · exact .inl ((r.stp en1.mok st).stp m0 s0)
    · refine .inr ⟨p, rfl, fun z => nm (ms p z), (r.stp en1.mok st nm).stp m0 s0 fun z => ?_⟩
      obtain ⟨o, ho, _⟩ := root_mut r
      rw [z, hD] at ho; cases ho
end
section
variable {T : Tb} {pg : Pg} {g : G} {q : Q9} {KK n : Nat} {B : Bl} {sc : Scope} {X : Cx} {p : Pr} {mk : Nat → Kd}
theorem l_tests0 : PTs X [] (rdT g mk (evTs p [])) := by
  refine ⟨fun pins s σ H Q I h => pts_nil.run pins s σ H Q I ?_⟩
  obtain ⟨F, e, en, h⟩ := h
  simp only [evTs] at h
  exact h F H (.refl en)
theorem blk_x (X0 : XO T pg g q KK n B sc X) (s : Shared) (H : Hp) (scope : Scope) (C : Addr) (cl : List (Str × Addr)) (fp : List Addr) : XO T pg g q KK n B (relS scope sc) (X.blk s H scope (compEnvC scope cl C X.env) fp) :=
  ⟨⟨X0.gf.ok, X0.gf.bd, X0.gf.nm, X0.gf.cn, X0.gf.off, X0.gf.ow, X0.gf.hK, X0.gf.fl, X0.gf.fc, X0.gf.na, X0.gf.kb, X0.gf.ki, X0.gf.dv, X0.gf.mkc, X0.gf.mt, X0.gf.oc, X0.gf.sr⟩, X0.N, X0.nd, by show relS scope X.env.scope = _; rw [X0.sc], X0.calm, X0.room⟩
theorem lc_use (X0 : XO T pg g q KK n B sc X) {own : List Nat} {t : Tg} {it : TE.It} {ifs : List E} {elt : E} {f1 : Bool} (hsub : (tgSlots t).all own.contains = true) (hown : own.all (fun i => B.mk' i == .n) = true)
    {σ : L2.St} {H : Hp} {Q : VK} (hq : rdE true g B.mk' (evE p (.lc own t it ifs elt)) σ H Q) : tLc (rdI g B.mk' p it) (gTg X.K t) (rdT g B.mk' (evTs p ifs)) (rdE f1 g B.mk' (evE p elt)) ((slotsOf B.N own).map (·.2)) σ H Q := by
  have ho : ∀ i ∈ own, B.mk' i = .n := fun i hi => by simpa using (List.all_eq_true.mp hown) i hi
  have hs : ∀ i ∈ tgSlots t, i ∈ own := fun i hi => by simpa using (List.all_eq_true.mp hsub) i hi
  obtain ⟨F, e, en, hq⟩ := hq
  simp only [evE] at hq
  rcases R_cases (evI p it e) with ⟨xs, e1, h1⟩ | ⟨_, e1, h1⟩ | h1 <;> rw [h1] at hq <;> simp only [R.bind] at hq
  all_goals first | exact hq.elim | skip
  rcases R_cases (lcL (gdI it xs) own t (evTs p ifs) (evE p elt) xs (wipeE e1 own) []) with ⟨ds, e2, h2⟩ | ⟨_, e2, h2⟩ | h2 <;> rw [h2] at hq <;> simp only at hq
  all_goals first | exact hq.elim | skip
  rw [slots_snd]
  refine ⟨F, e, en, xs, e1, h1, fun F1 H1 J af wl La hD => ?_⟩
  have ow := wipe_off (σ := σ) (e := e1) ho
  have hσw : ∀ {σ2 : L2.St}, (∀ j, j ∉ own → σ2[j]? = σ[j]?) → σ2.length = σ.length → wipe σ2 own = wipe σ own := fun {σ2} h hl => by
    apply List.ext_getElem?
    intro j
    rw [wipe_get, wipe_get, hl]
    by_cases hj : j ∈ own
    · rw [if_pos hj, if_pos hj]
    · rw [if_neg hj, if_neg hj]; exact h j hj
  have nMs : ∀ {σ2 : L2.St} {e2 : Ev}, (∀ j, B.mk' j ≠ .n → σ2[j]? = σ[j]?) → Sub B.mk' (wipeE e1 own) e2 → ∀ p, Ms B.mk' σ2 e2 p → Ms B.mk' σ e1 p := fun {σ2 e2} hσ sub p ⟨i, d, k1, k2, k3⟩ => by
    have z : B.mk' i ≠ .n := by rw [k1]; decide
    obtain ⟨d1, k4, _⟩ := sub i d z k2
    rw [ow.e i z] at k4
    exact ⟨i, d1, k1, k4, by rw [← hσ i z]; exact k3⟩
  have nD : ∀ p, Ms B.mk' σ e1 p → p ≠ La := fun p h z => by
    obtain ⟨_, o, ho, _⟩ := af.en.mok p h
    rw [z, hD] at ho; cases ho
  have enw := wipe_env ho af.en
  refine ⟨fun i m H' => ∃ F' e' acc vs, m + i = xs.length ∧ Stp (Ms B.mk' σ e1) F1 H1 F' H' ∧ REnv g B.mk' F' H' (wipe σ own) e' ∧ Sub B.mk' (wipeE e1 own) e' ∧ ¬ F' La ∧ H' La = some (.lst vs) ∧ Reps g F' H' vs acc ∧ lcL (gdI it xs) own t (evTs p ifs) (evE p elt) (xs.drop i) e' acc = .ok ds e2, ⟨xs.length, F1, wipeE e1 own, [], [], rfl, (stp_new af.en.fd hD).weak (fun _ z => z.elim), enw.add (stp_new af.en.fd hD), Sub.refl, nfd af.en.fd hD, upd_same, .nil, by simpa using h2⟩, ?_⟩
  rintro i m H2 ⟨F2, e3, acc, vs, hm, st, en3, sub, nF, hD2, rs, hl⟩
  have gdc : ∀ i ∈ slI it, ∀ v, (wipe σ own)[i]? = some (some v) → σ[i]? = some (some v) := fun i _ v h => (wipe_some h).1
  by_cases hi : i < xs.length
  · right
    have hdrop : xs.drop i = xs[i] :: xs.drop (i + 1) := List.drop_eq_getElem_cons hi
    rw [hdrop] at hl
    simp only [lcL] at hl
    have hgd : gdI it xs e3 = true := by
      cases hg : gdI it xs e3 with
      | true => rfl
      | false => rw [hg] at hl; simp at hl
    rw [hgd, if_pos rfl] at hl
    have hx : xs[i]? = some xs[i] := List.getElem?_eq_getElem hi
    obtain ⟨go, yl⟩ := (wl F2 H2 _ e3 st en3 gdc hgd i).2 _ hx
    cases hst : setT t xs[i] e3 with
    | none => rw [hst] at hl; cases hl
    | some e4 =>
      rw [hst] at hl
      simp only at hl
      obtain ⟨b, e5, htest, hl⟩ := bind_ok hl
      have main : ∀ (eN : Ev) (aN : List D), lcL (gdI it xs) own t (evTs p ifs) (evE p elt) (xs.drop (i + 1)) eN aN = .ok ds e2 →
          ∀ H', (∃ F' vs, Stp (Ms B.mk' σ e1) F1 H1 F' H' ∧ REnv g B.mk' F' H' (wipe σ own) eN ∧ Sub B.mk' (wipeE e1 own) eN ∧ ¬ F' La ∧ H' La = some (.lst vs) ∧ Reps g F' H' vs aN) → ∃ m', m' < m ∧ ∃ F' e' acc vs, m' + (i + 1) = xs.length ∧ Stp (Ms B.mk' σ e1) F1 H1 F' H' ∧ REnv g B.mk' F' H' (wipe σ own) e' ∧ Sub B.mk' (wipeE e1 own) e' ∧ ¬ F' La ∧ H' La = some (.lst vs) ∧ Reps g F' H' vs acc ∧ lcL (gdI it xs) own t (evTs p ifs) (evE p elt) (xs.drop (i + 1)) e' acc = .ok ds e2 := fun eN aN hN H' ⟨F', vs, a1, a2, a3, a4, a5, a6⟩ =>
        ⟨m - 1, by omega, F', eN, aN, vs, by omega, a1, a2, a3, a4, a5, a6, hN⟩
      -- one turn, as far as the tests
      have turn : ∀ (v : V) (H3 : Hp), J.yld i H2 v H3 → ∀ (Q' : L2.St → Bool → Hp → Prop), (∀ (σ2 : L2.St) (F4 : Addr → Prop) (H4 : Hp), (∀ j, B.mk' j ≠ .n → σ2[j]? = σ[j]?) → wipe σ2 own = wipe σ own → Stp (Ms B.mk' σ e1) F1 H1 F4 H4 → REnv g B.mk' F4 H4 σ2 e5 → Sub B.mk' (wipeE e1 own) e5 → ¬ F4 La → H4 La = some (.lst vs) → Reps g F4 H4 vs acc → Q' σ2 b H4) →
          gTg X.K t v (wipe σ own) H3 fun σ2 H4 => wipe σ2 own = wipe σ own ∧ rdT g B.mk' (evTs p ifs) σ2 H4 (Q' σ2) := fun v H3 hy Q' k => by
        obtain ⟨s3, r3⟩ := yl v H3 hy
        have en4 := en3.add s3
        have r2 := rs.stp mok0 s3
        refine tg_use X0.gf.hK en4 (fun i hi => ho i (hs i hi)) r3 hst fun σ2 en5 off hout hlen => ?_
        have w1 : wipe σ2 own = wipe σ own := hσw (fun j hj => by
          rw [hout j fun z => hj (hs j z), wipe_get, if_neg hj]) (by rw [hlen, wipe_length])
        refine ⟨w1, F2, e4, en5, ?_⟩
        rw [htest]
        intro F4 H4 af4
        have hσ2 : ∀ j, B.mk' j ≠ .n → σ2[j]? = σ[j]? := fun j hj => (off.s j hj).trans (ow.s j hj)
        have sub4 : Sub B.mk' (wipeE e1 own) e4 := sub.trans off.sub
        have st3 : Stp (Ms B.mk' σ e1) F1 H1 F2 H3 := st.trans (s3.weak (M' := Ms B.mk' σ e1) fun _ z => z.elim) fun _ z => z
        have hM := nMs hσ2 sub4
        have hD3 : H3 La = some (.lst vs) := s3.kp _ _ hD2 fun z => z
        refine k σ2 F4 H4 hσ2 w1 (st3.trans af4.st hM) af4.en (sub4.trans af4.sub) (fun z => ?_) (af4.st.kp _ _ hD3 fun z => nD _ (hM _ z) rfl) (r2.stp en5.mok af4.st)
        rcases af4.st.fn _ z with z | z | z
        · exact nF z
        · rw [hD3] at z; cases z
        · exact nD _ (hM _ z) rfl
      -- behind a turn
      have done : ∀ {σ2 : L2.St} {F4 : Addr → Prop} {H4 : Hp} {e6 : Ev}, wipe σ2 own = wipe σ own → REnv g B.mk' F4 H4 σ2 e6 → Sub B.mk' (wipeE e1 own) e6 → REnv g B.mk' F4 H4 (wipe σ own) (wipeE e6 own) ∧ Sub B.mk' (wipeE e1 own) (wipeE e6 own) := fun {σ2 F4 H4 e6} w1 en6 s6 => by
        have := wipe_env ho en6
        rw [w1] at this
        exact ⟨this, s6.trans (wipe_off (σ := σ2) ho).sub⟩
      refine ⟨go, ?_⟩
      cases b with
      | false =>
        simp only [Bool.false_eq_true, if_false] at hl
        refine ⟨_, main _ _ hl, fun v H3 hy => turn v H3 hy _ fun σ2 F4 H4 hσ2 w1 st4 en5 s5 nF4 hD4 r4 => ?_⟩
        simp only [Bool.false_eq_true, if_false]
        obtain ⟨a, b⟩ := done w1 en5 s5
        exact ⟨F4, vs, st4, a, b, nF4, hD4, r4⟩
      | true =>
        simp only [if_true] at hl
        obtain ⟨d, e6, helt, hl⟩ := bind_ok hl
        by_cases hz : small acc.length = true
        · rw [if_pos hz] at hl
          refine ⟨_, main _ _ hl, fun v H3 hy => turn v H3 hy _ fun σ2 F4 H4 hσ2 w1 st4 en5 s5 nF4 hD4 r4 => ?_⟩
          simp only [if_true]
          refine use en5 ⟨d, e6, helt, fun F5 H5 w af5 rw5 => ?_⟩
          have hM := nMs hσ2 s5
          have hD5 : H5 La = some (.lst vs) := af5.st.kp _ _ hD4 fun z => nD _ (hM _ z) rfl
          have nF5 : ¬ F5 La := fun z => by
            rcases af5.st.fn _ z with z | z | z
            · exact nF4 z
            · rw [hD4] at z; cases z
            · exact nD _ (hM _ z) rfl
          have st5 := st4.trans af5.st hM
          have s6 := s5.trans af5.sub
          have r5 := r4.stp en5.mok af5.st
          refine ⟨vs, hD5, by rw [r4.length]; exact Nat.lt_of_le_of_lt (of_decide_eq_true hz) (by decide), ?_⟩
          have hσ2w : ∀ j, B.mk' j ≠ .n → σ2[j]? = (wipe σ own)[j]? := fun j hj => (hσ2 j hj).trans (ow.s j hj).symm
          have stw : Stp (Ms B.mk' (wipe σ own) (wipeE e1 own)) F1 H1 F5 H5 := st5.weak fun p hp => ow.ms.mpr hp
          obtain ⟨en7, m7, s7⟩ := en_upd (o' := HO.lst (vs ++ [w])) enw hD af5.en stw s6 hσ2w ⟨_, hD5, trivial⟩ nF5
          obtain ⟨a, b⟩ := done w1 en7 s6
          refine ⟨F5, vs ++ [w], ⟨st5.fm, st5.fn, fun a o h n => ?_, fun a o h => ?_, s7.fd⟩, a, b, nF5, upd_same, (r5.stp m7 s7).app (.cons (rw5.stp m7 s7) .nil)⟩
          · rw [upd_ne (fun z => by rw [z, hD] at h; cases h)]
            exact st5.kp a o h n
          · obtain ⟨o', h'⟩ := st5.th a o h
            exact s7.th a o' h'
        · rw [if_neg hz] at hl; cases hl
  · left
    have hdrop : xs.drop i = [] := List.drop_eq_nil_of_le (by omega)
    rw [hdrop] at hl
    simp only [lcL] at hl
    have hgd : gdI it xs e3 = true := by
      cases hg : gdI it xs e3 with
      | true => rfl
      | false => rw [hg] at hl; simp at hl
    rw [hgd, if_pos rfl] at hl
    cases hl
    refine ⟨(wl F2 H2 _ _ st en3 gdc hgd i).1 (by omega), ?_⟩
    have st' := af.st.trans st fun _ z => z.sub af.sub
    have ofb : Off B.mk' (wipe σ own) e2 σ (backE e1 e2 own) := ⟨fun j hj => (ow.s j hj).symm, fun j hj => by rw [backE_get, if_neg fun z => hj (ho j z)]⟩
    refine hq F2 H2 (.ref La) ⟨st', ofb.env en3 (fun j d k1 k2 => ?_) (by rw [backE_len]; have := en3.len; rw [wipe_length] at this; exact this), ?_⟩ ?_
    · rw [backE_get] at k2
      by_cases hj : j ∈ own
      · rw [if_pos hj] at k2
        split at k2
        · obtain ⟨v, hv, r⟩ := af.en.n j d k1 k2
          exact ⟨v, hv, r.stp af.en.mok st⟩
        · cases k2
      · rw [if_neg hj] at k2
        obtain ⟨v, hv, r⟩ := en3.n j d k1 k2
        rw [wipe_get, if_neg hj] at hv
        exact ⟨v, hv, r⟩
    · exact af.sub.trans (ow.sub.trans (sub.trans ofb.sub))
    · unfold RV
      rw [if_pos (by rfl)]
      exact ⟨La, rfl, af.st.fresh hD, nF, vs, hD2, rs⟩
theorem l_lc (X0 : XO T pg g q KK n B sc X) {own : List Nat} {t : Tg} {it : TE.It} {ifs : List E} {elt : E} {tg iter x : Expr} {cs : List Expr} {scope : Scope} {pos : Pos} {f1 : Bool}
    (hi : PI X tg iter (rdI g B.mk' p it)) (hblk : blkC B.N sc scope (slotsOf B.N own) = true) (htg : tgOk B (relS scope sc) (celOf scope) t tg = true) (hsub : (tgSlots t).all own.contains = true) (hown : own.all (fun i => B.mk' i == .n) = true) (hns : notSet iter = true)
    (ht : ∀ X', XO T pg g q KK n B (relS scope sc) X' → PTs X' cs (rdT g B.mk' (evTs p ifs))) (he : ∀ X', XO T pg g q KK n B (relS scope sc) X' → PE X' x (rdE f1 g B.mk' (evE p elt))) :
    PE X (.ListComp x [⟨tg, iter, cs, 0⟩] scope pos) (rdE true g B.mk' (evE p (.lc own t it ifs elt))) :=
  PE.weak (pe_lc X0.calm (by rw [X0.N]; exact X0.nd) hi (by rw [X0.N, X0.sc]; exact blkOk_by hblk) (g := gTg X.K t) (tt := rdT g B.mk' (evTs p ifs)) (te := rdE f1 g B.mk' (evE p elt))
    (fun s H C cl fp => (l_tg (blk_x X0 s H scope C cl fp) (fun y hy => hy) htg).1) (fun s H C cl fp => ht _ (blk_x X0 s H scope C cl fp)) (fun s H C cl fp => he _ (blk_x X0 s H scope C cl fp)) (fun x => by cases iter <;> first | rfl | (cases hns; done))) fun σ H Q hq => lc_use X0 hsub hown hq
/-- name = [..] on one line -/
theorem l_setLc (X0 : XO T pg g q KK n B sc X) {own : List Nat} {t : Tg} {it : TE.It} {ifs : List E} {elt : E} {tg iter x : Expr} {cs : List Expr} {scope : Scope} {pos spos py : Pos} {f1 : Bool} {i : Nat} {y : Str} (hy : B.N[i]? = some y) (hyl : sc.names.lookup y = some .local) (hsw : swapsWith (.ListComp x [⟨tg, iter, cs, 0⟩] scope pos) (some (.Name y py)) spos.line X.env = pure true)
    (hi : PI X tg iter (rdI g B.mk' p it)) (hblk : blkC B.N sc scope (slotsOf B.N own) = true) (htg : tgOk B (relS scope sc) (celOf scope) t tg = true) (hsub : (tgSlots t).all own.contains = true) (hown : own.all (fun i => B.mk' i == .n) = true) (hns : notSet iter = true)
    (ht : ∀ X', XO T pg g q KK n B (relS scope sc) X' → PTs X' cs (rdT g B.mk' (evTs p ifs))) (he : ∀ X', XO T pg g q KK n B (relS scope sc) X' → PE X' x (rdE f1 g B.mk' (evE p elt))) :
    PS X (.Assign [.Name y py] (.ListComp x [⟨tg, iter, cs, 0⟩] scope pos) spos) (tAsg (rdE true g B.mk' (evE p (.lc own t it ifs elt))) (gName i)) :=
  PS.weak (ps_setLc X0.calm (by rw [X0.N]; exact X0.nd) (by rw [X0.N]; exact hy) (by rw [X0.sc]; exact hyl) hsw hi (by rw [X0.N, X0.sc]; exact blkOk_by hblk) (g := gTg X.K t) (tt := rdT g B.mk' (evTs p ifs)) (te := rdE f1 g B.mk' (evE p elt))
    (fun s H C cl fp => (l_tg (blk_x X0 s H scope C cl fp) (fun y hy => hy) htg).1) (fun s H C cl fp => ht _ (blk_x X0 s H scope C cl fp)) (fun s H C cl fp => he _ (blk_x X0 s H scope C cl fp)) (fun x => by cases iter <;> first | rfl | (cases hns; done))) fun D σ H hq => lc_use X0 hsub hown hq
end
end TE
/-! Te20: what holds between a def's statements; slots set by new objects. -/
namespace TE
open PySem L2
structure Bs where
  M : Addr → Prop
  F : Addr → Prop
  H : Hp
/-- the bases of a def's frame: its entry, its loops' starts; slots that no statement sets; the number of parameters; the entry's heap -/
structure Sb where
  bs : List Bs
  gs : List Nat
  σg : L2.St
  np : Nat
  Hz : Hp
structure SI (g : G) (mk : Nat → Kd) (S : Sb) (σ : L2.St) (e : Ev) (F : Addr → Prop) (H : Hp) : Prop where
  en : REnv g mk F H σ e
  fr : ∀ b ∈ S.bs, Stp b.M b.F b.H F H ∧ ∀ q, Ms mk σ e q → b.M q ∨ b.H q = none
  gd : ∀ i ∈ S.gs, σ[i]? = S.σg[i]?
  lo : ∀ i d q, mk i = .m → S.np ≤ i → get e i = some d → σ[i]? = some (some (.ref q)) → S.Hz q = none
  hz : ∀ a, H a = none → S.Hz a = none
section
variable {g : G} {mk : Nat → Kd} {M M' F F0 F1 F' F'' : Addr → Prop} {H H0 Hs H1 H' H'' : Hp} {σ σ0 σ' σ1 : L2.St} {e e0 e' e1 : Ev} {S : Sb} {P : List Addr} {p : Pr}
theorem Stp.trans' (s : Stp M F H F' H') (t : Stp M' F' H' F'' H'') (h : ∀ a, M' a → M a ∨ H a = none) : Stp M F H F'' H'' :=
  ⟨fun a x => t.fm a (s.fm a x), fun a x => (t.fn a x).elim (fun y => s.fn a y) (fun y => .inr (y.elim (fun z => .inl (s.fresh z)) fun z => (h a z).symm)), fun a o e n => t.kp a o (s.kp a o e n) fun z => (h a z).elim n fun y => (nomatch e.symm.trans y), fun a o e => by
    obtain ⟨o', e'⟩ := s.th a o e
    exact t.th a o' e', t.fd⟩
/-- a step between statements -/
theorem SI.go (s : SI g mk S σ e F H) (st : Stp (Ms mk σ e) F H F' H') (en : REnv g mk F' H' σ' e') (hg : ∀ i ∈ S.gs, σ'[i]? = σ[i]?)
    (mv : ∀ i d q, mk i = .m → get e' i = some d → σ'[i]? = some (some (.ref q)) → (σ[i]? = some (some (.ref q)) ∧ ∃ d0, get e i = some d0) ∨ H q = none) : SI g mk S σ' e' F' H' := by
  refine ⟨en, fun b hb => ?_, fun i hi => (hg i hi).trans (s.gd i hi), fun i d q h1 h2 h3 h4 => ?_, fun a h => s.hz a (st.fresh h)⟩
  · obtain ⟨a, c⟩ := s.fr b hb
    refine ⟨a.trans' st c, fun q ⟨i, d, h1, h2, h3⟩ => ?_⟩
    rcases mv i d q h1 h2 h3 with ⟨h4, d0, h5⟩ | h4
    · exact c q ⟨i, d0, h1, h5, h4⟩
    · exact .inr (a.fresh h4)
  · rcases mv i d q h1 h3 h4 with ⟨h5, d0, h6⟩ | h5
    · exact s.lo i d0 q h1 h2 h6 h5
    · exact s.hz q h5
theorem SI.aft (s : SI g mk S σ e F H) (a : Aft g mk F H σ e F' H' e') : SI g mk S σ e' F' H' :=
  s.go a.st a.en (fun _ _ => rfl) fun i d q h1 h2 h3 => by
    obtain ⟨d0, h4, _⟩ := a.sub i d (by rw [h1]; decide) h2
    exact .inl ⟨h3, d0, h4⟩
theorem SI.setn (s : SI g mk S σ e F H) {i : Nat} {v : V} {d : D} (hk : mk i = .n) (hi : i ∉ S.gs) (r : Rep g F H v d) : SI g mk S (σ.set i (some v)) (e.set i (some d)) F H := by
  have o := set_off (σ := σ) (e := e) (v := some v) (d := some d) hk
  refine s.go (Stp.refl s.en.fd) (set_n s.en hk r) (fun j hj => List.getElem?_set_ne fun z => hi (by rw [z]; exact hj)) fun j d' q h1 h2 h3 => ?_
  have z : mk j ≠ .n := by rw [h1]; decide
  rw [o.e j z] at h2; rw [o.s j z] at h3
  exact .inl ⟨h3, d', h2⟩
/-! ### new objects set -/
structure EO (g : G) (mk : Nat → Kd) (Hs : Hp) (P : List Addr) (F : Addr → Prop) (H : Hp) (σ0 : L2.St) (e0 : Ev) (σ : L2.St) (e : Ev) : Prop where
  en : REnv g mk F H σ e
  old : ∀ q, Ms mk σ0 e0 q → Hs q ≠ none
  mv : ∀ i d q, mk i = .m → get e i = some d → σ[i]? = some (some (.ref q)) → (σ0[i]? = some (some (.ref q)) ∧ ∃ d0, get e0 i = some d0) ∨ (Hs q = none ∧ q ∈ P)
  bo : ∀ i d, mk i = .b → get e i = some d → ∃ v, σ[i]? = some (some v) ∧ (Rep g F H v d ∨ ∃ q, v = .ref q ∧ Root g F H q d ∧ Hs q ≠ none)
theorem EO.init (en0 : REnv g mk F0 Hs σ0 e0) (a : Aft g mk F0 Hs σ0 e0 F H e) : EO g mk Hs [] F H σ0 e0 σ0 e := by
  refine ⟨a.en, fun q h => ?_, fun i d q h1 h2 h3 => ?_, fun i d h1 h2 => ?_⟩
  · obtain ⟨_, o, ho, _⟩ := en0.mok q h
    rw [ho]; exact fun z => by cases z
  · obtain ⟨d0, h4, _⟩ := a.sub i d (by rw [h1]; decide) h2
    exact .inl ⟨h3, d0, h4⟩
  · obtain ⟨d0, h4, hd⟩ := a.sub i d (by rw [h1]; decide) h2
    have hd := hd h1
    subst hd
    obtain ⟨v, hv, r⟩ := en0.b i _ h1 h4
    refine ⟨v, hv, ?_⟩
    rcases r with r | ⟨q, rfl, nm, r⟩
    · exact .inl (r.stp en0.mok a.st)
    · refine .inr ⟨q, rfl, r.stp en0.mok a.st nm, fun z => ?_⟩
      obtain ⟨o, ho, _⟩ := root_mut r
      rw [ho] at z; cases z
theorem EO.setn (s : EO g mk Hs P F H σ0 e0 σ e) {i : Nat} {v : V} {d : D} (hk : mk i = .n) (r : Rep g F H v d) : EO g mk Hs P F H σ0 e0 (σ.set i (some v)) (e.set i (some d)) := by
  have o := set_off (σ := σ) (e := e) (v := some v) (d := some d) hk
  refine ⟨set_n s.en hk r, s.old, fun j d' q h1 h2 h3 => ?_, fun j d' h1 h2 => ?_⟩
  · have z : mk j ≠ .n := by rw [h1]; decide
    rw [o.e j z] at h2; rw [o.s j z] at h3
    exact s.mv j d' q h1 h2 h3
  · have z : mk j ≠ .n := by rw [h1]; decide
    rw [o.e j z] at h2; rw [o.s j z]
    exact s.bo j d' h1 h2
theorem EO.setm (s : EO g mk Hs P F H σ0 e0 σ e) {i : Nat} {q : Addr} {d : D} (hk : mk i = .m) (hq : Hs q = none) (hP : q ∉ P) (nF : ¬ F q) (r : Root g F H q d) : EO g mk Hs (q :: P) F H σ0 e0 (σ.set i (some (.ref q))) (e.set i (some d)) := by
  have gs : ∀ j, i ≠ j → get (e.set i (some d)) j = get e j := fun j z => by rw [get_set, if_neg z]
  have ss : ∀ j, i ≠ j → (σ.set i (some (V.ref q)))[j]? = σ[j]? := fun j z => List.getElem?_set_ne z
  have gi : ∀ d', get (e.set i (some d)) i = some d' → d' = d ∧ (σ.set i (some (V.ref q)))[i]? = some (some (.ref q)) := fun d' h => by
    rw [get_set, if_pos rfl] at h
    split at h
    · rename_i hl
      cases h
      have := s.en.len
      exact ⟨rfl, List.getElem?_set_self (by omega)⟩
    · cases h
  have ms : ∀ a, Ms mk (σ.set i (some (V.ref q))) (e.set i (some d)) a → a = q ∨ Ms mk σ e a := fun a ⟨j, d', h1, h2, h3⟩ => by
    by_cases z : i = j
    · subst z
      obtain ⟨_, h4⟩ := gi d' h2
      rw [h4] at h3; cases h3
      exact .inl rfl
    · rw [gs j z] at h2; rw [ss j z] at h3
      exact .inr ⟨j, d', h1, h2, h3⟩
  have nq : ∀ j d', mk j = .m → get e j = some d' → σ[j]? ≠ some (some (.ref q)) := fun j d' h1 h2 h3 => by
    rcases s.mv j d' q h1 h2 h3 with ⟨h4, d0, h5⟩ | ⟨_, h4⟩
    · exact s.old q ⟨j, d0, h1, h5, h4⟩ hq
    · exact hP h4
  refine ⟨⟨s.en.fd, fun j d' h1 h2 => ?_, fun j d' h1 h2 => ?_, fun j d' h1 h2 => ?_, fun j j' d1 d2 a h1 h2 h3 h4 h5 h6 h7 => ?_, by rw [List.length_set, List.length_set]; exact s.en.len⟩, s.old, fun j d' a h1 h2 h3 => ?_, fun j d' h1 h2 => ?_⟩
  · have z : i ≠ j := fun z => by rw [z, h1] at hk; cases hk
    rw [gs j z] at h2; rw [ss j z]
    exact s.en.n j d' h1 h2
  · by_cases z : i = j
    · subst z
      obtain ⟨rfl, h4⟩ := gi d' h2
      exact ⟨q, h4, nF, r⟩
    · rw [gs j z] at h2; rw [ss j z]
      exact s.en.m j d' h1 h2
  · have z : i ≠ j := fun z => by rw [z, h1] at hk; cases hk
    rw [gs j z] at h2; rw [ss j z]
    obtain ⟨v, hv, x⟩ := s.en.b j d' h1 h2
    obtain ⟨v', hv', x'⟩ := s.bo j d' h1 h2
    rw [hv] at hv'; cases hv'
    refine ⟨v, hv, ?_⟩
    rcases x with x | ⟨a, rfl, nm, x⟩
    · exact .inl x
    · rcases x' with x' | ⟨a', ea, x', ho⟩
      · exact .inl x'
      · cases ea
        refine .inr ⟨a, rfl, fun y => ?_, x⟩
        rcases ms a y with y | y
        · rw [y] at ho; exact ho hq
        · exact nm y
  · by_cases z : i = j
    · subst z
      have z' : i ≠ j' := h3
      obtain ⟨_, h8⟩ := gi d1 h4
      rw [h8] at h6; cases h6
      rw [gs j' z'] at h5; rw [ss j' z'] at h7
      exact nq j' d2 h2 h5 h7
    · rw [gs j z] at h4; rw [ss j z] at h6
      by_cases z' : i = j'
      · subst z'
        obtain ⟨_, h8⟩ := gi d2 h5
        rw [h8] at h7; cases h7
        exact nq j d1 h1 h4 h6
      · rw [gs j' z'] at h5; rw [ss j' z'] at h7
        exact s.en.ne j j' d1 d2 a h1 h2 h3 h4 h5 h6 h7
  · by_cases z : i = j
    · subst z
      obtain ⟨_, h4⟩ := gi d' h2
      rw [h4] at h3; cases h3
      exact .inr ⟨hq, List.mem_cons_self⟩
    · rw [gs j z] at h2; rw [ss j z] at h3
      rcases s.mv j d' a h1 h2 h3 with h4 | ⟨h4, h5⟩
      · exact .inl h4
      · exact .inr ⟨h4, List.mem_cons_of_mem _ h5⟩
  · have z : i ≠ j := fun z => by rw [z, h1] at hk; cases hk
    rw [gs j z] at h2; rw [ss j z]
    exact s.bo j d' h1 h2
theorem SI.eo (s : SI g mk S σ0 e0 F0 Hs) (st : Stp (Ms mk σ0 e0) F0 Hs F H) (x : EO g mk Hs P F H σ0 e0 σ e) (hg : ∀ i ∈ S.gs, σ[i]? = σ0[i]?) : SI g mk S σ e F H :=
  s.go st x.en hg fun i d q h1 h2 h3 => (x.mv i d q h1 h2 h3).elim .inl fun h => .inr h.1
/-- values that wait to be set -/
inductive PRs (g : G) (Hs : Hp) (F : Addr → Prop) (H : Hp) : List Addr → List Bool → List V → List D → Prop
  | nil {P : List Addr} : PRs g Hs F H P [] [] []
  | pl {P : List Addr} {v : V} {d : D} {ms : List Bool} {vs : List V} {ds : List D} : Rep g F H v d → PRs g Hs F H P ms vs ds → PRs g Hs F H P (false :: ms) (v :: vs) (d :: ds)
  | ow {P : List Addr} {q : Addr} {d : D} {ms : List Bool} {vs : List V} {ds : List D} : Hs q = none → q ∉ P → ¬ F q → Root g F H q d → PRs g Hs F H (q :: P) ms vs ds → PRs g Hs F H P (true :: ms) (.ref q :: vs) (d :: ds)
  | no {P : List Addr} {v : V} {d : D} {ms : List Bool} {vs : List V} {ds : List D} : d.isM = false → vs.length = ms.length → PRs g Hs F H P (true :: ms) (v :: vs) (d :: ds)
theorem PRs.len : ∀ {P : List Addr} {ms : List Bool} {vs : List V} {ds : List D}, PRs g Hs F H P ms vs ds → vs.length = ms.length
  | _, _, _, _, .nil => rfl
  | _, _, _, _, .pl _ r => congrArg (· + 1) r.len
  | _, _, _, _, .ow _ _ _ _ r => congrArg (· + 1) r.len
  | _, _, _, _, .no _ h => congrArg (· + 1) h
def rdPs (g : G) (mk : Nat → Kd) (p : Pr) : List E → TA
  | [] => tNil
  | c :: cs => tCons (rdE (frE p c) g mk (evE p c)) (rdPs g mk p cs)
theorem pars_len : ∀ {cs : List E} {F : Addr → Prop} {H : Hp} {e e1 : Ev} {ds : List D} {Q : List V → Hp → Prop}, REnv g mk F H σ e → evEs p cs e = .ok ds e1 → (∀ vs H', vs.length = cs.length → Q vs H') → rdPs g mk p cs σ H Q
  | [], F, H, e, e1, ds, Q, en, h, k => k [] H rfl
  | c :: cs, F, H, e, e1, ds, Q, en, h, k => by
    simp only [evEs] at h
    obtain ⟨d, e2, h1, h⟩ := bind_ok h
    obtain ⟨ds2, e3, h2, h⟩ := bind_ok h
    exact use en ⟨d, e2, h1, fun F1 H1 v a r => pars_len a.en h2 fun vs H' hl => k _ H' (congrArg (· + 1) hl)⟩
theorem pars_use : ∀ {cs : List E} {ms : List Bool} {P : List Addr} {F : Addr → Prop} {H : Hp} {e e1 : Ev} {ds : List D} {Q : List V → Hp → Prop}, REnv g mk F H σ e → (∀ a ∈ P, ∃ o, H a = some o) → (∀ a, H a = none → Hs a = none) → all2 (fun m c => !m || frE p c) ms cs = true → evEs p cs e = .ok ds e1 →
    (∀ F' H' vs, Aft g mk F H σ e F' H' e1 → PRs g Hs F' H' P ms vs ds → Q vs H') → rdPs g mk p cs σ H Q
  | [], [], P, F, H, e, e1, ds, Q, en, hP, hz, hm, h, k => by
    simp only [evEs] at h
    cases h
    exact k F H [] (.refl en) .nil
  | [], _ :: _, P, F, H, e, e1, ds, Q, en, hP, hz, hm, h, k => by cases hm
  | _ :: _, [], P, F, H, e, e1, ds, Q, en, hP, hz, hm, h, k => by cases hm
  | c :: cs, m :: ms, P, F, H, e, e1, ds, Q, en, hP, hz, hm, h, k => by
    simp only [all2, Bool.and_eq_true] at hm
    simp only [evEs] at h
    obtain ⟨d, e2, h1, h⟩ := bind_ok h
    obtain ⟨ds2, e3, h2, h⟩ := bind_ok h
    cases h
    show rdE (frE p c) g mk (evE p c) σ H fun x H1 => rdPs g mk p cs σ H1 fun xs H2 => Q (x :: xs) H2
    cases m with
    | false =>
      refine use en ⟨d, e2, h1, fun F1 H1 v a r => ?_⟩
      refine pars_use a.en (fun x hx => (hP x hx).elim fun o ho => a.st.th x o ho) (fun x hx => hz x (a.st.fresh hx)) hm.2 h2 fun F' H' vs b rs => k F' H' _ (a.trans b) (.pl (r.stp a.en.mok b.st) rs)
    | true =>
      have hf : frE p c = true := by simpa using hm.1
      rw [hf]
      by_cases hd : d.isM = true
      · refine ⟨F, e, en, ?_⟩
        rw [h1]
        intro F1 H1 v a r
        unfold RV at r
        rw [if_pos (by rw [hd]; rfl)] at r
        obtain ⟨q, rfl, hn, nf, ro⟩ := r
        obtain ⟨oq, hoq, _⟩ := root_mut ro
        have nM : ¬ Ms mk σ e2 q := fun z => by
          obtain ⟨_, o, ho, _⟩ := en.mok q (z.sub a.sub)
          rw [hn] at ho; cases ho
        refine pars_use (P := q :: P) a.en (fun x hx => ?_) (fun x hx => hz x (a.st.fresh hx)) hm.2 h2 fun F' H' vs b rs => k F' H' _ (a.trans b) (.ow (hz q hn) (fun z => ?_) (fun z => ?_) (ro.stp a.en.mok b.st nM) rs)
        · rcases List.mem_cons.mp hx with rfl | hx
          · exact ⟨oq, hoq⟩
          · exact (hP x hx).elim fun o ho => a.st.th x o ho
        · obtain ⟨o, ho⟩ := hP q z
          rw [hn] at ho; cases ho
        · rcases b.st.fn q z with z | z | z
          · exact nf z
          · rw [hoq] at z; cases z
          · exact nM z
      · have hd : d.isM = false := by cases h : d.isM with | true => exact absurd h hd | false => rfl
        refine ⟨F, e, en, ?_⟩
        rw [h1]
        intro F1 H1 v a r
        refine pars_use (P := P) a.en (fun x hx => (hP x hx).elim fun o ho => a.st.th x o ho) (fun x hx => hz x (a.st.fresh hx)) hm.2 h2 fun F' H' vs b rs => k F' H' _ (a.trans b) (.no hd rs.len)
theorem setK_n {i : Nat} {d : D} {e e' : Ev} (h : setK (i, false) d e = some e') : e' = e.set i (some d) := by
  unfold setK at h
  simp at h
  exact h.symm
theorem setK_m {i : Nat} {d : D} {e e' : Ev} (h : setK (i, true) d e = some e') : d.isM = true ∧ e' = e.set i (some d) := by
  unfold setK at h
  cases hd : d.isM with
  | false => rw [hd] at h; simp at h
  | true => rw [hd] at h; simp at h; exact ⟨rfl, h.symm⟩
theorem eo_sets : ∀ {is : List (Nat × Bool)} {P : List Addr} {vs : List V} {ds : List D} {σ : L2.St} {e e' : Ev}, EO g mk Hs P F H σ0 e0 σ e → (∀ i ∈ is, mk i.1 = if i.2 then .m else .n) → PRs g Hs F H P (is.map (·.2)) vs ds → setKs is ds e = some e' →
    ∃ P', EO g mk Hs P' F H σ0 e0 (setS (is.map (·.1)) vs σ) e'
  | [], P, _, _, σ, e, e', x, hk, .nil, h => by
    cases h
    exact ⟨P, x⟩
  | (i, false) :: is, P, _, _, σ, e, e', x, hk, .pl r rs, h => by
    simp only [setKs] at h
    obtain ⟨e2, h1, h⟩ := Option.bind_eq_some_iff.mp h
    have := setK_n h1
    subst this
    exact eo_sets (is := is) (x.setn (hk (i, false) List.mem_cons_self) r) (fun j hj => hk j (List.mem_cons_of_mem _ hj)) rs h
  | (i, true) :: is, P, _, _, σ, e, e', x, hk, .ow h1 h2 h3 h4 rs, h => by
    simp only [setKs] at h
    obtain ⟨e2, h5, h⟩ := Option.bind_eq_some_iff.mp h
    obtain ⟨_, rfl⟩ := setK_m h5
    exact eo_sets (is := is) (x.setm (hk (i, true) List.mem_cons_self) h1 h2 h3 h4) (fun j hj => hk j (List.mem_cons_of_mem _ hj)) rs h
  | (i, true) :: is, P, _, _, σ, e, e', x, hk, .no h1 _, h => by
    simp only [setKs] at h
    obtain ⟨e2, h5, h⟩ := Option.bind_eq_some_iff.mp h
    obtain ⟨h6, _⟩ := setK_m h5
    rw [h1] at h6; cases h6
end
end TE
/-! Te21: statements, one form after another. -/
namespace TE
open PySem L2
def GoodS (g : G) (mk : Nat → Kd) (S : Sb) (own : Bool) (D : Ends) : R Fl → Prop
  | .ok .next e' => ∀ σ' F' H', SI g mk S σ' e' F' H' → D.nx σ' H'
  | .ok .brk e' => ∀ σ' F' H', SI g mk S σ' e' F' H' → D.bk σ' H'
  | .ok .cont e' => ∀ σ' F' H', SI g mk S σ' e' F' H' → D.ct σ' H'
  | .ok (.ret d) e' => ∀ σ' F' H' v, SI g mk S σ' e' F' H' → RV own g S.Hz F' H' v d → D.rt v H'
  | _ => False
def rdS (g : G) (mk : Nat → Kd) (S : Sb) (own : Bool) (r : Ev → R Fl) : TS := fun D σ H => ∃ F e, SI g mk S σ e F H ∧ GoodS g mk S own D (r e)
structure XS (X : Cx) : Prop where
  fn : ∀ x, X.fn x = true
  bk : X.env.blockKind = .function
  po : PassesOwn (model X.prog X.w) X.A X.env X.xe
def allS : Str → Bool := fun _ => true
def setOk (B : Bl) (sc : Scope) (gs : List Nat) (im : Nat × Bool) (e : Expr) : Bool := match e with | .Name x _ => nsp B.N im.1 x && isSet sc allS x && (B.mk' im.1 == (if im.2 then Kd.m else Kd.n)) && !gs.contains im.1 | _ => false
def notComp : Expr → Bool
  | .ListComp .. => false
  | .SetComp .. => false
  | .DictComp .. => false
  | _ => true
def swW (sc : Scope) (v t : Expr) : Bool := match v, t with
  | .ListComp _ _ s vp, .Name x pos => sc.names.lookup x == some .local && pos.line == vp.line && !(s.names.any fun (n, k) => n == x && (k == .local || k == .cell))
  | _, _ => false
def swN (sc : Scope) (line : Nat) : Expr → Option Str
  | .Name id pos => if sc.names.lookup id == some .local && pos.line == line then some id else none
  | _ => none
def isStar : Expr → Bool
  | .Starred .. => true
  | _ => false
/-- whether a tuple of names is stored from the right -/
def swP (sc : Scope) (ts vs : List Expr) : Option (Option (List Str)) :=
  if (!(ts.length == 2 || ts.length == 3) || vs.length != ts.length) = true then some none
  else if vs.any isStar = true then some none
  else
    let names := ts.filterMap (swN sc ((ts.head?.map (·.pos.line)).getD 0))
    if (names.length != ts.length || names.eraseDups.length != names.length) = true then some none
    else if vs.all (foldedForSure 8) = true then some none
    else if vs.all (constantsAlone 8) = true then none
    else some (some names)
theorem swP_ok {env : Env} {ts vs : List Expr} {k k' : Nat} {p p' : Pos} {r : Option (List Str)} (hb : env.blockKind = .function) (h : swP env.scope ts vs = some r) : swappedStores [.Tuple ts k p] (.Tuple vs k' p') env = pure r := by
  unfold swP at h
  have e : swappedStores [.Tuple ts k p] (.Tuple vs k' p') env = (if (!(ts.length == 2 || ts.length == 3) || vs.length != ts.length || env.blockKind != .function) = true then pure none
    else if vs.any isStar = true then pure none
    else
      let names := ts.filterMap (swN env.scope ((ts.head?.map (·.pos.line)).getD 0))
      if (names.length != ts.length || names.eraseDups.length != names.length) = true then pure none
      else if vs.all (foldedForSure 8) = true then pure none
      else if vs.all (constantsAlone 8) = true then (do unsupported "assign.tuple-of-constant-expressions:order-of-the-stores"; return some names)
      else pure (some names)) := rfl
  rw [e]
  simp only [hb, bne_self_eq_false, Bool.or_false]
  split at h
  · rename_i h1
    rw [if_pos h1]; cases h; rfl
  · rename_i h1
    rw [if_neg h1]
    split at h
    · rename_i h2
      rw [if_pos h2]; cases h; rfl
    · rename_i h2
      rw [if_neg h2]
      simp only at h
      split at h
      · rename_i h3
        rw [if_pos h3]; cases h; rfl
      · rename_i h3
        rw [if_neg h3]
        split at h
        · rename_i h4
          rw [if_pos h4]; cases h; rfl
        · rename_i h4
          rw [if_neg h4]
          split at h
          · cases h
          · rename_i h5
            rw [if_neg h5]; cases h; rfl
end TE
/-! Te22: the check is sound: expressions. -/
namespace TE
open PySem L2
def isBoolE : Expr → Bool
  | .BoolOp _ _ _ => true
  | _ => false
section
variable {T : Tb} {pg : Pg} {g : G} {q : Q9} {KK n : Nat} {B : Bl} {sc : Scope} {X : Cx} {p : Pr} {mk : Nat → Kd}
theorem t_isN {a : Expr} {j : Nat} {pos pos' : Pos} {cs : List E} (ops : Ops X g mk p cs [a]) : PT X (.Compare a [.Is] [.Constant .none j pos'] pos) (rdT g mk (evT p (.op .isN cs))) := by
  obtain ⟨c, rfl, h1⟩ := ops.one
  refine PT.weak (pt_cmp (pc_isN h1)) fun σ H Q hq => ?_
  have hq' := tB_of (c := c) (fun ds d h => by
    rcases ds with _ | ⟨a, _ | ⟨b, t⟩⟩ <;> cases h
    exact ⟨_, rfl⟩) hq
  have h3 : rdO g mk p c σ H fun x H1 => rC true g (pD .isN) [x] H1 _ := op_use hq'
  refine rdO_mono h3 fun x H1 h4 => ?_
  obtain ⟨F, a, d, fd, r, e, k⟩ := rC_one (no1 rfl fun a _ _ => rfl) h4
  cases e
  have := post_now (v := .bl (isNonD a)) fd k (.bl _) rfl
  rw [← r.isN] at this
  exact this
theorem t_noN {a : Expr} {j : Nat} {pos pos' : Pos} {cs : List E} (ops : Ops X g mk p cs [a]) : PT X (.Compare a [.IsNot] [.Constant .none j pos'] pos) (rdT g mk (evT p (.op .noN cs))) := by
  obtain ⟨c, rfl, h1⟩ := ops.one
  refine PT.weak (pt_cmp (pc_notN h1)) fun σ H Q hq => ?_
  have hq' := tB_of (c := c) (fun ds d h => by
    rcases ds with _ | ⟨a, _ | ⟨b, t⟩⟩ <;> cases h
    exact ⟨_, rfl⟩) hq
  have h3 : rdO g mk p c σ H fun x H1 => rC true g (pD .noN) [x] H1 _ := op_use hq'
  refine rdO_mono h3 fun x H1 h4 => ?_
  obtain ⟨F, a, d, fd, r, e, k⟩ := rC_one (no1 rfl fun a _ _ => rfl) h4
  cases e
  have := post_now (v := .bl (!isNonD a)) fd k (.bl _) rfl
  rw [← r.isN] at this
  exact this
theorem evT_op (o : P) (cs : List E) (e : Ev) : evT p (.op o cs) e = (evE p (.op o cs) e).bind fun d e1 => .ofO (truth d) e1 := by simp only [evT]
/-- an operation, as a value and as a test -/
theorem l_op (X0 : XO T pg g q KK n B sc X) {o : P} {cs : List E} {x : Expr} (hs : shape T sc o x = true) (ops : Ops X g mk p cs (opnds o x)) : PE X x (rdE (frE p (.op o cs)) g mk (evE p (.op o cs))) ∧ PT X x (rdT g mk (evT p (.op o cs))) ∧ isBoolE x = false := by
  have hK := X0.gf.hK
  have hu := hu64 X0
  have hc := X0.calm
  have pl : PE X x (rdE (frE p (.op o cs)) g mk (evE p (.op o cs))) → (∀ whole, isTrue x X.env whole = (do let v ← whole; standAt x.pos; holding [v] (truthy v))) → isBoolE x = false → PE X x (rdE (frE p (.op o cs)) g mk (evE p (.op o cs))) ∧ PT X x (rdT g mk (evT p (.op o cs))) ∧ isBoolE x = false := fun h he hb => ⟨h, t_plain X0 h he (evT_op o cs), hb⟩
  unfold shape at hs
  split at hs <;> first | (cases hs; done) | skip
  · exact pl (l_bin ops (o_add hK) (fun _ _ => rfl) (no2 rfl (fun _ => rfl) fun _ _ _ _ => rfl)) (fun _ => rfl) rfl
  · exact pl (l_bin ops o_sub (fun _ _ => rfl) (no2 rfl (fun a => by cases a <;> rfl) fun a b _ _ => by cases a <;> cases b <;> rfl)) (fun _ => rfl) rfl
  · exact pl (l_bin ops o_mul (fun _ _ => rfl) (no2 rfl (fun _ => rfl) fun _ _ _ _ => rfl)) (fun _ => rfl) rfl
  · exact pl (l_bin ops o_fdv (fun _ _ => rfl) (no2 rfl (fun a => by cases a <;> rfl) fun a b _ _ => by cases a <;> cases b <;> rfl)) (fun _ => rfl) rfl
  · exact pl (l_bin ops o_mod (fun _ _ => rfl) (no2 rfl (fun a => by cases a <;> rfl) fun a b _ _ => by cases a <;> cases b <;> rfl)) (fun _ => rfl) rfl
  · exact pl (l_bin ops o_pow (fun _ _ => rfl) (no2 rfl (fun a => by cases a <;> rfl) fun a b _ _ => by cases a <;> cases b <;> rfl)) (fun _ => rfl) rfl
  · exact pl (l_neg ops) (fun _ => rfl) rfl
  · have hm := (Bool.not_eq_true' _).mp hs
    exact ⟨l_cmp ops (o_eq hK (by omega)) hm (fun _ _ => rfl) (no2 rfl (fun a => by cases a <;> rfl) fun a b _ _ => by cases a <;> cases b <;> rfl), l_cmpT ops (o_eq hK (by omega)) hm (fun _ _ => rfl) (no2 rfl (fun a => by cases a <;> rfl) fun a b _ _ => by cases a <;> cases b <;> rfl) (fun ds d h => ord_bl rfl h) (evT_op _ _), rfl⟩
  · have hm := (Bool.not_eq_true' _).mp hs
    exact ⟨l_cmp ops (o_ne hK (by omega)) hm (fun _ _ => rfl) (no2 rfl (fun a => by cases a <;> rfl) fun a b _ _ => by cases a <;> cases b <;> rfl), l_cmpT ops (o_ne hK (by omega)) hm (fun _ _ => rfl) (no2 rfl (fun a => by cases a <;> rfl) fun a b _ _ => by cases a <;> cases b <;> rfl) (fun ds d h => ord_bl rfl h) (evT_op _ _), rfl⟩
  · have hm := (Bool.not_eq_true' _).mp hs
    exact ⟨l_cmp ops o_lt hm (fun _ _ => rfl) (no2 rfl (fun a => by cases a <;> rfl) fun a b _ _ => by cases a <;> cases b <;> rfl), l_cmpT ops o_lt hm (fun _ _ => rfl) (no2 rfl (fun a => by cases a <;> rfl) fun a b _ _ => by cases a <;> cases b <;> rfl) (fun ds d h => ord_bl rfl h) (evT_op _ _), rfl⟩
  · have hm := (Bool.not_eq_true' _).mp hs
    exact ⟨l_cmp ops o_le hm (fun _ _ => rfl) (no2 rfl (fun a => by cases a <;> rfl) fun a b _ _ => by cases a <;> cases b <;> rfl), l_cmpT ops o_le hm (fun _ _ => rfl) (no2 rfl (fun a => by cases a <;> rfl) fun a b _ _ => by cases a <;> cases b <;> rfl) (fun ds d h => ord_bl rfl h) (evT_op _ _), rfl⟩
  · have hm := (Bool.not_eq_true' _).mp hs
    exact ⟨l_cmp ops o_gt hm (fun _ _ => rfl) (no2 rfl (fun a => by cases a <;> rfl) fun a b _ _ => by cases a <;> cases b <;> rfl), l_cmpT ops o_gt hm (fun _ _ => rfl) (no2 rfl (fun a => by cases a <;> rfl) fun a b _ _ => by cases a <;> cases b <;> rfl) (fun ds d h => ord_bl rfl h) (evT_op _ _), rfl⟩
  · have hm := (Bool.not_eq_true' _).mp hs
    exact ⟨l_cmp ops o_ge hm (fun _ _ => rfl) (no2 rfl (fun a => by cases a <;> rfl) fun a b _ _ => by cases a <;> cases b <;> rfl), l_cmpT ops o_ge hm (fun _ _ => rfl) (no2 rfl (fun a => by cases a <;> rfl) fun a b _ _ => by cases a <;> cases b <;> rfl) (fun ds d h => ord_bl rfl h) (evT_op _ _), rfl⟩
  · have hm := (Bool.not_eq_true' _).mp hs
    have hb : ∀ ds d, pD .inn ds = some d → ∃ c, d = .bl c := fun ds d h => by
      rcases ds with _ | ⟨a, _ | ⟨b, _ | ⟨c, t⟩⟩⟩ <;> first | (cases h; done) | (cases a <;> cases h; done) | exact bl?_bl h
    exact ⟨l_cmp ops (o_in hK (by omega)) hm (fun _ _ => rfl) (no2 rfl (fun a => by cases a <;> rfl) fun a b _ _ => by cases a <;> cases b <;> rfl), l_cmpT ops (o_in hK (by omega)) hm (fun _ _ => rfl) (no2 rfl (fun a => by cases a <;> rfl) fun a b _ _ => by cases a <;> cases b <;> rfl) hb (evT_op _ _), rfl⟩
  · have hm := (Bool.not_eq_true' _).mp hs
    have hb : ∀ ds d, pD .nin ds = some d → ∃ c, d = .bl c := fun ds d h => by
      rcases ds with _ | ⟨a, _ | ⟨b, _ | ⟨c, t⟩⟩⟩ <;> first | (cases h; done) | (cases a <;> cases h; done) | exact bl?_bl h
    exact ⟨l_cmp ops (o_nin hK (by omega)) hm (fun _ _ => rfl) (no2 rfl (fun a => by cases a <;> rfl) fun a b _ _ => by cases a <;> cases b <;> rfl), l_cmpT ops (o_nin hK (by omega)) hm (fun _ _ => rfl) (no2 rfl (fun a => by cases a <;> rfl) fun a b _ _ => by cases a <;> cases b <;> rfl) hb (evT_op _ _), rfl⟩
  · exact ⟨l_isN ops, t_isN ops, rfl⟩
  · exact ⟨l_noN ops, t_noN ops, rfl⟩
  · rename_i b x e es px pos _ _ _
    simp only [Bool.and_eq_true, beq_iff_eq] at hs
    obtain ⟨rfl, hx⟩ := hs
    refine pl ?_ (fun _ => rfl) rfl
    cases b
    case str => exact l_bfT X0 hx ops c_str rfl
    case len => exact l_bf X0 hx ops (c_len hK) rfl
    case int => exact l_bfT X0 hx ops c_int rfl
    case list => exact l_bfT X0 hx ops (c_list hK hc) rfl
    case tuple => exact l_bfT X0 hx ops (c_tuple hK) rfl
    case all => exact l_bf X0 hx ops (c_all hc) rfl
    case any => exact l_bf X0 hx ops (c_any hc) rfl
    case sum => exact l_bf X0 hx ops (c_sum hc) rfl
    case max2 => exact l_bf X0 hx ops (c_max2 hc) rfl
    case min2 => exact l_bf X0 hx ops (c_min2 hc) rfl
    all_goals contradiction
  · exact pl (l_idx X0 hs ops) (fun _ => rfl) rfl
  · cases ops
    refine pl (PE.weak pe_dnewK fun σ H Q hq => ?_) (fun _ => rfl) rfl
    obtain ⟨F, e, en, hq⟩ := hq
    simp only [evE, evEs, late, R.bind, pD, R.ofO] at hq
    intro d hd
    have st := stp_new (o := HO.dK []) en.fd hd
    refine hq F _ (.ref d) (Aft.add en st) ?_
    unfold RV
    rw [if_pos (by rfl)]
    exact ⟨d, rfl, hd, nfd en.fd hd, [], upd_same, rfl, List.nodup_nil, .nil⟩
  · simp only [Bool.and_eq_true, decide_eq_true_eq, beq_iff_eq] at hs
    obtain ⟨⟨⟨⟨⟨h1, h2⟩, h3⟩, h4⟩, h5⟩, h6⟩ := hs
    exact pl (l_isi1 X0 h1 h2 h4 h3 h5 (by cases ops with | cons _ h _ => exact h) ops) (fun _ => rfl) rfl
  · simp only [Bool.and_eq_true, decide_eq_true_eq, beq_iff_eq] at hs
    obtain ⟨⟨⟨⟨⟨⟨h1, h2⟩, h3⟩, h4⟩, h5⟩, h6⟩, h7⟩ := hs
    exact pl (l_isi X0 h1 h2 h3 h5 h4 h6 (by cases ops with | cons _ h _ => exact h) ops) (fun _ => rfl) rfl
end
end TE
/-! Te23: the check read backwards. -/
namespace TE
open PySem L2
section
variable {T : Tb} {pg : Pg} {B : Bl} {t : Bool} {sc : Scope} {x : Expr}
theorem inv_v {i : Nat} (h : chkE T pg B (.v i) t sc x = true) : ∃ y pos, x = .Name y pos ∧ nsp B.N i y = true ∧ isV sc y = true ∧ okN y = true ∧ (t = true ∨ B.mk' i = .n) := by
  unfold chkE at h
  split at h <;> first | contradiction | skip
  cases ‹E.v i = _›
  simp only [Bool.and_eq_true, Bool.or_eq_true, beq_iff_eq] at h
  exact ⟨_, _, rfl, h.1.1.1, h.1.1.2, h.1.2, h.2⟩
theorem inv_k {d : D} (h : chkE T pg B (.k d) t sc x = true) : ∃ c j pos, x = .Constant c j pos ∧ kOk d c = true := by
  unfold chkE at h
  split at h <;> first | contradiction | skip
  cases ‹E.k d = _›
  exact ⟨_, _, _, rfl, h⟩
theorem inv_op {o : P} {es : List E} (h : chkE T pg B (.op o es) t sc x = true) : (∃ xs j pos, o = .tup ∧ x = .Tuple xs j pos ∧ chkEs T pg B es sc xs = true) ∨ (∃ xs pos, o = .lst ∧ x = .List xs pos ∧ chkEs T pg B es sc xs = true) ∨ (shape T sc o x = true ∧ chkAs T pg B es sc (opnds o x) = true) := by
  unfold chkE at h
  split at h <;> first | contradiction | skip
  · cases ‹E.op o es = _›
    exact .inl ⟨_, _, _, rfl, rfl, h⟩
  · cases ‹E.op o es = _›
    exact .inr (.inl ⟨_, _, rfl, rfl, h⟩)
  · cases ‹E.op o es = _›
    simp only [Bool.and_eq_true] at h
    exact .inr (.inr h)
theorem inv_own {w : Ow} {es : List E} (h : chkE T pg B (.own w es) t sc x = true) : ownS T sc w x = true ∧ chkEs T pg B es sc (ownO x) = true := by
  unfold chkE at h
  simp only [Bool.and_eq_true] at h
  exact h
theorem inv_and {a b : E} (h : chkE T pg B (.and_ a b) t sc x = true) : ∃ y z r pos, x = .BoolOp .And (y :: z :: r) pos ∧ chkE T pg B a t sc y = true ∧ chkE T pg B b t sc (strip1 (.BoolOp .And (z :: r) pos)) = true := by
  unfold chkE at h
  split at h <;> first | contradiction | skip
  cases ‹E.and_ a b = _›
  simp only [Bool.and_eq_true] at h
  exact ⟨_, _, _, _, rfl, h⟩
theorem inv_or {a b : E} (h : chkE T pg B (.or_ a b) t sc x = true) : ∃ y z r pos, x = .BoolOp .Or (y :: z :: r) pos ∧ chkE T pg B a t sc y = true ∧ chkE T pg B b t sc (strip1 (.BoolOp .Or (z :: r) pos)) = true := by
  unfold chkE at h
  split at h <;> first | contradiction | skip
  cases ‹E.or_ a b = _›
  simp only [Bool.and_eq_true] at h
  exact ⟨_, _, _, _, rfl, h⟩
theorem inv_not {a : E} (h : chkE T pg B (.not_ a) t sc x = true) : ∃ y pos, x = .UnaryOp .Not y pos ∧ chkE T pg B a t sc y = true := by
  unfold chkE at h
  split at h <;> first | contradiction | skip
  cases ‹E.not_ a = _›
  exact ⟨_, _, rfl, h⟩
theorem inv_ite {c a b : E} (h : chkE T pg B (.ite c a b) t sc x = true) : ∃ y z w pos, x = .IfExp y z w pos ∧ t = false ∧ chkE T pg B c true sc y = true ∧ chkE T pg B a false sc z = true ∧ chkE T pg B b false sc w = true := by
  unfold chkE at h
  split at h <;> first | contradiction | skip
  cases ‹E.ite c a b = _›
  simp only [Bool.and_eq_true, Bool.not_eq_true'] at h
  exact ⟨_, _, _, _, rfl, h.1.1.1, h.1.1.2, h.1.2, h.2⟩
theorem inv_chain {o o' : P} {a b c : E} (h : chkE T pg B (.chain o o' a b c) t sc x = true) : ∃ u p p' v w pos, x = .Compare u [p, p'] [v, w] pos ∧ ordP o = true ∧ ordP o' = true ∧ cmpOf o = some p ∧ cmpOf o' = some p' ∧ lastMarks [p, p'] [v, w] = false ∧ chkE T pg B a false sc u = true ∧ chkE T pg B b false sc v = true ∧ chkE T pg B c false sc w = true := by
  unfold chkE at h
  split at h <;> first | contradiction | skip
  cases ‹E.chain o o' a b c = _›
  simp only [Bool.and_eq_true, Bool.not_eq_true', beq_iff_eq] at h
  obtain ⟨⟨⟨⟨⟨⟨⟨h1, h2⟩, h3⟩, h4⟩, h5⟩, h6⟩, h7⟩, h8⟩ := h
  exact ⟨_, _, _, _, _, _, rfl, h1, h2, h3, h4, h5, h6, h7, h8⟩
theorem inv_call {f : Nat} {es : List E} {dfl : List D} (h : chkE T pg B (.call f es dfl) t sc x = true) : ∃ y px a as pos d, dfl = [] ∧ x = .Call (.Name y px) (a :: as) [] pos ∧ T.pl.contains f = true ∧ isG sc y = true ∧ okN y = true ∧ T.fns.lookup y = some f ∧ pg.defs[f]? = some d ∧ chkKs T pg B es d.fi.kd sc (a :: as) = true ∧ ioOk d.fi.kd es = true := by
  unfold chkE at h
  split at h <;> first | contradiction | skip
  cases ‹E.call f es dfl = _›
  simp only [Bool.and_eq_true] at h
  obtain ⟨⟨⟨⟨h0, h1⟩, h2⟩, h3⟩, h4⟩ := h
  split at h3 <;> first | contradiction | skip
  split at h4 <;> first | contradiction | skip
  rename_i f' hf _ d hd
  have := beq_iff_eq.mp h3
  subst this
  simp only [Bool.and_eq_true] at h4
  exact ⟨_, _, _, _, _, d, rfl, rfl, h0, h1, h2, hf, hd, h4⟩
theorem inv_fld {f : Str} {a : E} (h : chkE T pg B (.fld f a) t sc x = true) : ∃ o pos, x = .Attribute o f pos ∧ nosup o = true ∧ chkE T pg B a false sc o = true := by
  unfold chkE at h
  split at h <;> first | contradiction | skip
  cases ‹E.fld f a = _›
  simp only [Bool.and_eq_true, beq_iff_eq] at h
  obtain ⟨⟨rfl, h2⟩, h3⟩ := h
  exact ⟨_, _, rfl, h2, h3⟩
theorem inv_met {m : Mt} {a : E} {es : List E} (h : chkE T pg B (.met m a es) t sc x = true) : ∃ o apos y ys cpos, x = .Call (.Attribute o (mtN m) apos) (y :: ys) [] cpos ∧ nosup o = true ∧ (apos.endLine == cpos.line) = true ∧ ys.length < 20 ∧ chkE T pg B a false sc o = true ∧ chkAs T pg B es sc (y :: ys) = true := by
  unfold chkE at h
  split at h <;> first | contradiction | skip
  cases ‹E.met m a es = _›
  simp only [Bool.and_eq_true, decide_eq_true_eq] at h
  obtain ⟨⟨⟨⟨⟨h1, h2⟩, h3⟩, h4⟩, h5⟩, h6⟩ := h
  have := beq_iff_eq.mp h1
  subst this
  exact ⟨_, _, _, _, _, rfl, h2, h3, h4, h5, h6⟩
theorem inv_sl {a : E} {lo hi : List E} (h : chkE T pg B (.sl a lo hi) t sc x = true) : ∃ y l u p2 pos, x = .Subscript y (.Slice l u none p2) pos ∧ ((∃ i z pz, a = .v i ∧ y = .Name z pz ∧ nsp B.N i z = true ∧ isV sc z = true ∧ okN z = true) ∨ chkE T pg B a false sc y = true) ∧ chkEs T pg B lo sc l.toList = true ∧ chkEs T pg B hi sc u.toList = true := by
  unfold chkE at h
  split at h <;> first | contradiction | skip
  cases ‹E.sl a lo hi = _›
  simp only [Bool.and_eq_true] at h
  refine ⟨_, _, _, _, _, rfl, ?_, h.1.2, h.2⟩
  have h1 := h.1.1
  split at h1
  · simp only [Bool.and_eq_true] at h1
    exact .inl ⟨_, _, _, rfl, rfl, h1.1.1, h1.1.2, h1.2⟩
  · exact .inr h1
theorem inv_lc {own : List Nat} {tg : Tg} {it : It} {ifs : List E} {elt : E} (h : chkE T pg B (.lc own tg it ifs elt) t sc x = true) : ∃ y ta i cs scope pos, x = .ListComp y [⟨ta, i, cs, 0⟩] scope pos ∧ t = false ∧ blkC B.N sc scope (slotsOf B.N own) = true ∧ (tgSlots tg).all own.contains = true ∧ own.all (fun i => B.mk' i == .n) = true ∧ tgOk B (relS scope sc) (celOf scope) tg ta = true ∧ chkI T pg B it sc ta i = true ∧ chkTs T pg B ifs (relS scope sc) cs = true ∧ chkE T pg B elt false (relS scope sc) y = true ∧ notSet i = true := by
  unfold chkE at h
  split at h <;> first | contradiction | skip
  cases ‹E.lc own tg it ifs elt = _›
  simp only [Bool.and_eq_true, Bool.not_eq_true'] at h
  obtain ⟨⟨⟨⟨⟨⟨⟨⟨h1, h2⟩, h3⟩, h4⟩, h5⟩, h6⟩, h7⟩, h8⟩, h9⟩ := h
  exact ⟨_, _, _, _, _, _, rfl, h1, h2, h3, h4, h5, h6, h7, h8, h9⟩
theorem inv_mv {i : Nat} (h : chkE T pg B (.mv i) t sc x = true) : ∃ y pos, x = .Name y pos ∧ t = false ∧ nsp B.N i y = true ∧ isV sc y = true ∧ okN y = true ∧ B.mk' i = .m := by
  unfold chkE at h
  split at h <;> first | contradiction | skip
  cases ‹E.mv i = _›
  simp only [Bool.and_eq_true, Bool.not_eq_true', beq_iff_eq] at h
  exact ⟨_, _, rfl, h.1.1.1.1, h.1.1.1.2, h.1.1.2, h.1.2, h.2⟩
theorem inv_pop {i : Nat} {a : E} (h : chkE T pg B (.pop i a) t sc x = true) : ∃ z px apos y cpos, x = .Call (.Attribute (.Name z px) "pop" apos) [y] [] cpos ∧ t = false ∧ nsp B.N i z = true ∧ isV sc z = true ∧ okN z = true ∧ B.mk' i = .m ∧ (apos.endLine == cpos.line) = true ∧ nst y = true ∧ chkE T pg B a false sc y = true := by
  unfold chkE at h
  split at h <;> first | contradiction | skip
  cases ‹E.pop i a = _›
  simp only [Bool.and_eq_true, Bool.not_eq_true'] at h
  obtain ⟨⟨⟨⟨⟨⟨⟨⟨h1, h2⟩, h3⟩, h4⟩, h5⟩, h6⟩, h7⟩, h8⟩, h9⟩ := h
  have := beq_iff_eq.mp h6
  subst this
  exact ⟨_, _, _, _, _, rfl, h1, h2, h3, h4, beq_iff_eq.mp h5, h7, h8, h9⟩
theorem inv_callK {s : Nat} {es : List E} (h : chkE T pg B (.callK s es) t sc x = true) : ∃ y px as kws pos hh d, x = .Call (.Name y px) as kws pos ∧ isG sc y = true ∧ okN y = true ∧ pg.sh[s]? = some hh ∧ T.fns.lookup y = some hh.f ∧ hh.np = as.length ∧ kwOk hh.ks kws = true ∧ pg.defs[hh.f]? = some d ∧ lentOk B d.fi.kd (pickE hh.sel es) = true ∧ ioOk d.fi.kd (pickE hh.sel es) = true ∧ chkAs T pg B es sc (as ++ kws.map (·.value)) = true := by
  unfold chkE at h
  split at h <;> first | contradiction | skip
  cases ‹E.callK s es = _›
  simp only [Bool.and_eq_true] at h
  obtain ⟨⟨⟨h1, h2⟩, h3⟩, h4⟩ := h
  split at h3 <;> first | contradiction | skip
  rename_i hh hs
  simp only [Bool.and_eq_true] at h3
  obtain ⟨⟨⟨⟨h5, h6⟩, h7⟩, h8⟩, h9⟩ := h3
  split at h5 <;> first | contradiction | skip
  split at h9 <;> first | contradiction | skip
  rename_i f' hf _ d hd
  have := beq_iff_eq.mp h5
  subst this
  simp only [Bool.and_eq_true] at h9
  exact ⟨_, _, _, _, _, hh, d, rfl, h1, h2, hs, hf, beq_iff_eq.mp h6, h7, hd, h9.1, h9.2, h4⟩
theorem inv_mkK {s C : Nat} {es : List E} (h : chkE T pg B (.mkK s C es) t sc x = true) : ∃ y px as kws pos hh d, x = .Call (.Name y px) as kws pos ∧ isG sc y = true ∧ okN y = true ∧ pg.sh[s]? = some hh ∧ T.cls.lookup y = some C ∧ C < T.nC ∧ pg.init[C]? = some hh.f ∧ hh.np = as.length ∧ kwOk hh.ks kws = true ∧ pg.defs[hh.f]? = some d ∧ d.fi.kd.head? = some .m ∧ lentOk B (d.fi.kd.drop 1) (pickE hh.sel es) = true ∧ ioOk (d.fi.kd.drop 1) (pickE hh.sel es) = true ∧ chkAs T pg B es sc (as ++ kws.map (·.value)) = true := by
  unfold chkE at h
  split at h <;> first | contradiction | skip
  cases ‹E.mkK s C es = _›
  simp only [Bool.and_eq_true] at h
  obtain ⟨⟨⟨h1, h2⟩, h3⟩, h4⟩ := h
  split at h3 <;> first | contradiction | skip
  rename_i hh hs
  simp only [Bool.and_eq_true] at h3
  obtain ⟨⟨⟨⟨⟨⟨h5, h6⟩, h7⟩, h8⟩, h9⟩, h10⟩, h11⟩ := h3
  split at h5 <;> first | contradiction | skip
  split at h11 <;> first | contradiction | skip
  rename_i C' hC _ d hd
  have := beq_iff_eq.mp h5
  subst this
  simp only [Bool.and_eq_true] at h11
  exact ⟨_, _, _, _, _, hh, d, rfl, h1, h2, hs, hC, of_decide_eq_true h6, beq_iff_eq.mp h7, beq_iff_eq.mp h8, h9, hd, beq_iff_eq.mp h11.1.1, h11.1.2, h11.2, h4⟩
theorem inv_none {e : E} (he : (∃ C es dfl, e = .mk C es dfl) ∨ ∃ m o es dfl, e = .meth m o es dfl) (h : chkE T pg B e t sc x = true) : False := by
  unfold chkE at h
  rcases he with ⟨C, es, dfl, rfl⟩ | ⟨m, o, es, dfl, rfl⟩
  · split at h <;> contradiction
  · split at h <;> contradiction
theorem inv_As {c : E} {cs : List E} {xs : List Expr} (h : chkAs T pg B (c :: cs) sc xs = true) : ∃ x es, xs = x :: es ∧ ((∃ i y pos, c = .v i ∧ x = .Name y pos ∧ nsp B.N i y = true ∧ isV sc y = true ∧ okN y = true) ∨ (nst x = true ∧ chkE T pg B c false sc x = true)) ∧ chkAs T pg B cs sc es = true := by
  unfold chkAs at h
  split at h <;> first | contradiction | skip
  · cases ‹c :: cs = _›
    simp only [Bool.and_eq_true] at h
    exact ⟨_, _, rfl, .inl ⟨_, _, _, rfl, rfl, h.1.1.1, h.1.1.2, h.1.2⟩, h.2⟩
  · cases ‹c :: cs = _›
    simp only [Bool.and_eq_true] at h
    exact ⟨_, _, rfl, .inr h.1, h.2⟩
theorem inv_Es {c : E} {cs : List E} {xs : List Expr} (h : chkEs T pg B (c :: cs) sc xs = true) : ∃ x es, xs = x :: es ∧ nst x = true ∧ chkE T pg B c false sc x = true ∧ chkEs T pg B cs sc es = true := by
  unfold chkEs at h
  split at h <;> first | contradiction | skip
  cases ‹c :: cs = _›
  simp only [Bool.and_eq_true] at h
  exact ⟨_, _, rfl, h.1.1, h.1.2, h.2⟩
theorem inv_Ks {c : E} {cs : List E} {ks : List Kd} {xs : List Expr} (h : chkKs T pg B (c :: cs) ks sc xs = true) : ∃ k kr x es, ks = k :: kr ∧ xs = x :: es ∧ ((∃ i y pos, c = .v i ∧ x = .Name y pos ∧ nsp B.N i y = true ∧ isV sc y = true ∧ okN y = true ∧ ((k = .m ∧ B.mk' i = .m) ∨ k = .b)) ∨ (k ≠ .m ∧ nst x = true ∧ chkE T pg B c false sc x = true)) ∧ chkKs T pg B cs kr sc es = true := by
  unfold chkKs at h
  split at h <;> first | contradiction | skip
  · cases ‹c :: cs = _›
    simp only [Bool.and_eq_true, beq_iff_eq] at h
    exact ⟨_, _, _, _, rfl, rfl, .inl ⟨_, _, _, rfl, rfl, h.1.1.1.1, h.1.1.1.2, h.1.1.2, .inl ⟨rfl, h.1.2⟩⟩, h.2⟩
  · cases ‹c :: cs = _›
    simp only [Bool.and_eq_true] at h
    exact ⟨_, _, _, _, rfl, rfl, .inl ⟨_, _, _, rfl, rfl, h.1.1.1, h.1.1.2, h.1.2, .inr rfl⟩, h.2⟩
  · cases ‹c :: cs = _›
    simp only [Bool.and_eq_true, bne_iff_ne] at h
    exact ⟨_, _, _, _, rfl, rfl, .inr ⟨h.1.1.1, h.1.1.2, h.1.2⟩, h.2⟩
theorem nil_As {xs : List Expr} (h : chkAs T pg B [] sc xs = true) : xs = [] := by
  unfold chkAs at h
  split at h <;> first | contradiction | rfl
theorem nil_Es {xs : List Expr} (h : chkEs T pg B [] sc xs = true) : xs = [] := by
  unfold chkEs at h
  split at h <;> first | contradiction | rfl
theorem nil_Ks {ks : List Kd} {xs : List Expr} (h : chkKs T pg B [] ks sc xs = true) : xs = [] ∧ ks = [] := by
  unfold chkKs at h
  split at h <;> first | contradiction | exact ⟨rfl, rfl⟩
theorem io_u : ∀ {ks : List Kd} {es : List E}, (msOf ks es).Nodup → (∀ i ∈ msOf ks es, i ∉ bsOf ks es) → ∀ (j k : Nat) i, ks[j]? = some Kd.m → es[j]? = some (E.v i) → es[k]? = some (E.v i) → k < ks.length → k = j
  | [], _, _, _, j, k, i, h1, _, _, _ => by simp at h1
  | _ :: _, [], _, _, j, k, i, _, h2, _, _ => by simp at h2
  | kk :: ks, c :: es, nd, ds, j, k, i, h1, h2, h3, h4 => by
    -- what a later place gives
    have later : ∀ (k : Nat), k < ks.length → es[k]? = some (E.v i) → i ∈ msOf ks es ∨ i ∈ bsOf ks es := by
      clear nd ds h1 h2 h3 h4 j k
      induction ks generalizing es with
      | nil => intro k h; simp at h
      | cons k0 ks ih =>
        intro k h hk
        cases es with
        | nil => simp at hk
        | cons c es =>
          cases k with
          | zero =>
            simp only [List.getElem?_cons_zero, Option.some.injEq] at hk
            subst hk
            cases k0 <;> simp [msOf, bsOf]
          | succ k =>
            simp only [List.getElem?_cons_succ] at hk
            have := ih es k (by simpa using h) hk
            cases k0 <;> cases c <;> simp only [msOf, bsOf] <;> first
              | exact this
              | (rcases this with h | h <;> first | exact .inl (List.mem_cons_of_mem _ h) | exact .inr (List.mem_cons_of_mem _ h) | exact .inl h | exact .inr h)
    have lm : ∀ (j : Nat), ks[j]? = some Kd.m → es[j]? = some (E.v i) → i ∈ msOf ks es := by
      clear nd ds h1 h2 h3 h4 later j k
      induction ks generalizing es with
      | nil => intro k h; simp at h
      | cons k0 ks ih =>
        intro k h hk
        cases es with
        | nil => simp at hk
        | cons c es =>
          cases k with
          | zero =>
            simp only [List.getElem?_cons_zero, Option.some.injEq] at hk h
            subst hk h
            simp [msOf]
          | succ k =>
            simp only [List.getElem?_cons_succ] at hk h
            have := ih es k h hk
            cases k0 <;> cases c <;> simp only [msOf] <;> first | exact this | exact List.mem_cons_of_mem _ this
    have nd' : (msOf ks es).Nodup := by
      cases kk <;> cases c <;> simp only [msOf] at nd <;> first | exact nd | exact (List.nodup_cons.mp nd).2
    have ds' : ∀ i ∈ msOf ks es, i ∉ bsOf ks es := fun i hi hb => by
      cases kk <;> cases c <;> simp only [msOf, bsOf] at ds <;> first
        | exact ds i hi hb
        | exact ds i hi (List.mem_cons_of_mem _ hb)
        | exact ds i (List.mem_cons_of_mem _ hi) hb
    cases j with
    | zero =>
      simp only [List.getElem?_cons_zero, Option.some.injEq] at h1 h2
      subst h1 h2
      cases k with
      | zero => rfl
      | succ k =>
        simp only [List.getElem?_cons_succ] at h3
        simp only [msOf, bsOf] at nd ds
        rcases later k (by simpa using h4) h3 with h | h
        · exact absurd h (List.nodup_cons.mp nd).1
        · exact absurd h (ds i List.mem_cons_self)
    | succ j =>
      simp only [List.getElem?_cons_succ] at h1 h2
      have hm := lm j h1 h2
      cases k with
      | zero =>
        simp only [List.getElem?_cons_zero, Option.some.injEq] at h3
        subst h3
        cases kk <;> simp only [msOf, bsOf] at nd ds
        · exact absurd List.mem_cons_self (ds i hm)
        · exact absurd hm (List.nodup_cons.mp nd).1
        · exact absurd List.mem_cons_self (ds i hm)
      | succ k =>
        simp only [List.getElem?_cons_succ] at h3
        exact congrArg (· + 1) (io_u nd' ds' j k i h1 h2 h3 (by simpa using h4))
end
end TE
/-! Te23b: calls with keywords and defaults. -/
namespace TE
open PySem L2
def tCallN (n m : Nat) (sp : Sp) (gV : List V → List V → List V) (E : XK) (t tk : TA) : L2.TE := fun σ H Q => t σ H fun vs H1 => tk σ H1 fun zs H2 => vs.length = n ∧ zs.length = m ∧ sp (gV vs zs) H2 Q E
section
variable {X : Cx} {CX : CXT} {k n : Nat} {f C : Addr} {fd : FuncData} {ps ks : List Str} {sp : Sp} {E : XK} {x : Str} {p pos : Pos} {es : List Expr} {kws : List Keyword} {t tk : TA} {gU : List Value → List Value → List Value} {gV : List V → List V → List V}
theorem run_fnN {pins : List (Addr × Obj)} {σ : L2.St} {H : Hp} {s : Shared} {Q : VK} {us ws : List Value} {vs zs : List V} (F : FnOk X.prog X.w X.K X.mg X.base CX k f fd ps sp) (hr : Room k X.A) (hb : KBn X.K fd ps n ks gU gV) (hx : Passes CX X E)
    (I : Inv X pins σ H s) (r : Vals vs us) (rz : Vals zs ws) (l1 : vs.length = n) (l2 : zs.length = ks.length) (h : sp (gV vs zs) H Q E) : wpAny (model X.prog X.w) X.A (call (.ref f) us (ks.zip ws)) (EP X pins σ Q) X.xe s := by
  have r2 := hb.rel r rz
  refine wpAny_call (codeAny_mono (F.run X.A X.stack s H ⟨us, ks.zip ws⟩ (gU us ws) (gV vs zs) Q E hr I.env0 (hb.to s us ws I.kIn (r.length.symm.trans l1) (rz.length.symm.trans l2)) r2 h) fun r s' hq => ?_)
  cases r with
  | error e => exact hx pins σ H s e s' I hq
  | ok fl =>
    cases fl with
    | ret u => exact I.after hq
    | next => exact False.elim hq
    | brk => exact False.elim hq
    | cont => exact False.elim hq
theorem pe_callN {e : Expr} (F : FnOk X.prog X.w X.K X.mg X.base CX k f fd ps sp) (hr : Room k X.A) (hg : Gl X x) (hm : X.mg x = some (.ref f)) (hk : PySem.W.keepIn X.K (.ref f) = true) (hb : KBn X.K fd ps n ks gU gV) (hx : Passes CX X E)
    (ha : PA X (e :: es) t) (hkw : PK X kws tk) (hall : (backToKw pos (keywordEach kws X.env)).all (·.1.isSome) = true) (hks : (backToKw pos (keywordEach kws X.env)).filterMap (·.1) = ks)
    (hdb : (x == ("__debug__" : Str)) = false) (he : starEach (e :: es) X.env = (false, eval e X.env) :: starEach es X.env)
    (hpl : ((backTo pos (starEach (e :: es) X.env)).any (·.1) || (backToKw pos (keywordEach kws X.env)).any (·.1.isNone)) = false) :
    PE X (.Call (.Name x p) (e :: es) kws pos) (tCallN n ks.length sp gV E t tk) := by
  refine ⟨fun pins s σ H Q I h => ?_⟩
  refine wpAny_Call_Name_kw (ld_glob I hg hm ?_ hdb)
  refine PySem.W.callWith_KW (h₀ := X.base) I.ok.mod.kin hk hall (thn (ha.run pos pins s σ H _ I h) fun us s1 ⟨vs, H1, I1, r, q⟩ => ?_) hpl he
  refine thn (hkw.run pos pins s1 σ H1 _ I1 q) fun ws s2 ⟨zs, H2, I2, rz, l1, l2, q2⟩ => ⟨I2.kIn, ?_⟩
  rw [hks]
  exact run_fnN F hr hb hx I2 r rz l1 l2 q2
theorem pe_callN0 (F : FnOk X.prog X.w X.K X.mg X.base CX k f fd ps sp) (hr : Room k X.A) (hg : Gl X x) (hm : X.mg x = some (.ref f)) (hk : PySem.W.keepIn X.K (.ref f) = true) (hb : KBn X.K fd ps 0 ks gU gV) (hx : Passes CX X E)
    (hkw : PK X kws tk) (hall : (backToKw pos (keywordEach kws X.env)).all (·.1.isSome) = true) (hks : (backToKw pos (keywordEach kws X.env)).filterMap (·.1) = ks)
    (hdb : (x == ("__debug__" : Str)) = false) (hpl : ((backTo pos (starEach [] X.env)).any (·.1) || (backToKw pos (keywordEach kws X.env)).any (·.1.isNone)) = false) :
    PE X (.Call (.Name x p) [] kws pos) (tCallN 0 ks.length sp gV E tNil tk) := by
  refine ⟨fun pins s σ H Q I h => ?_⟩
  refine wpAny_Call_Name_kw (ld_glob I hg hm ?_ hdb)
  refine PySem.W.callWith_KW0 (h₀ := X.base) I.ok.mod.kin hk hall ?_ hpl
  refine thn (hkw.run pos pins s σ H _ I h) fun ws s2 ⟨zs, H2, I2, rz, l1, l2, q2⟩ => ⟨I2.kIn, ?_⟩
  rw [hks]
  exact run_fnN (us := []) F hr hb hx I2 .nil rz l1 l2 q2
end
section
variable {T : Tb} {pg : Pg} {g : G} {q : Q9} {KK n : Nat} {B : Bl} {sc : Scope} {X : Cx} {p : Pr} {mk : Nat → Kd}
variable {F F' : Addr → Prop} {H H' : Hp} {σ : L2.St} {e e' : Ev}
/-- the keywords' values -/
theorem Ops.pk : ∀ {cs : List E} {kws : List Keyword}, Ops X g mk p cs (kws.map (·.value)) → PK X kws (rdOs g mk p cs)
  | [], [], _ => pk_nil
  | [], _ :: _, h => by cases h
  | _ :: _, [], h => by cases h
  | c :: cs, ⟨nm, v, kp⟩ :: kws, h => by
    cases h with
    | cons h1 _ h2 => exact pk_cons h1 (Ops.pk h2)
theorem Ops.split : ∀ {es es' : List Expr} {cs : List E}, Ops X g mk p cs (es ++ es') → ∃ c1 c2, cs = c1 ++ c2 ∧ Ops X g mk p c1 es ∧ Ops X g mk p c2 es'
  | [], es', cs, h => ⟨[], cs, rfl, .nil, h⟩
  | x :: es, es', cs, h => by
    cases h with
    | cons h1 h2 h3 =>
      obtain ⟨c1, c2, rfl, a, b⟩ := Ops.split h3
      exact ⟨_ :: c1, c2, rfl, .cons h1 h2 a, b⟩
theorem rdOs_app : ∀ {c1 c2 : List E} {σ : L2.St} {H : Hp} {Q : List V → Hp → Prop}, rdOs g mk p (c1 ++ c2) σ H Q → rdOs g mk p c1 σ H fun vs H1 => rdOs g mk p c2 σ H1 fun zs H2 => vs.length = c1.length ∧ Q (vs ++ zs) H2
  | [], c2, σ, H, Q, h => rdOs_mono (cs := c2) h fun vs H2 h => ⟨rfl, h⟩
  | c :: c1, c2, σ, H, Q, h => rdO_mono h fun v H1 h1 => rdOs_mono (cs := c1) (rdOs_app (c1 := c1) (c2 := c2) h1) fun vs H2 h2 => rdOs_mono (cs := c2) h2 fun zs H3 ⟨h3, h4⟩ => ⟨congrArg (· + 1) h3, h4⟩
theorem Ops.len : ∀ {cs : List E} {es : List Expr}, Ops X g mk p cs es → cs.length = es.length
  | _, _, .nil => rfl
  | _, _, .cons _ _ h => congrArg (· + 1) h.len
theorem kw_all : ∀ {ks : List Str} {kws : List Keyword} {pos : Pos} {env : Env}, kwOk ks kws = true → (backToKw pos (keywordEach kws env)).all (·.1.isSome) = true ∧ (backToKw pos (keywordEach kws env)).filterMap (·.1) = ks ∧ (backToKw pos (keywordEach kws env)).any (·.1.isNone) = false ∧ kws.length = ks.length
  | [], [], _, _, _ => ⟨rfl, rfl, rfl, rfl⟩
  | [], _ :: _, _, _, h => by cases h
  | _ :: _, [], _, _, h => by cases h
  | k :: ks, ⟨some m, v, kp⟩ :: kws, pos, env, h => by
    simp only [kwOk, Bool.and_eq_true] at h
    obtain ⟨h1, h2⟩ := h
    have := beq_iff_eq.mp h1
    subst this
    obtain ⟨a, b, c, d⟩ := kw_all (pos := pos) (env := env) h2
    refine ⟨?_, ?_, ?_, congrArg (· + 1) d⟩
    · show (true && (backToKw pos (keywordEach kws env)).all (·.1.isSome)) = true
      rw [a]; rfl
    · show k :: (backToKw pos (keywordEach kws env)).filterMap (·.1) = k :: ks
      rw [b]
    · show (false || (backToKw pos (keywordEach kws env)).any (·.1.isNone)) = false
      rw [c]; rfl
  | k :: ks, ⟨none, v, kp⟩ :: kws, pos, env, h => by cases h
/-- arguments by place -/
theorem ar_pick {q : Q9} {f : Nat} (en : REnv g mk F H σ e) {es : List E} {vs : List V} {ds ds' : List D} (ar : AR g F H σ es vs ds) (hl : late es ds e = some ds') : ∀ {sel : List (Nat ⊕ (Nat × D))} {as : List D}, (∀ j d, .inr (j, d) ∈ sel → Rep g F H (q.dv f j) d) → pick sel ds' = some as →
    AR g F H σ (pickE sel es) (pickV sel (q.dv f) vs) as ∧ late (pickE sel es) as e = some as
  | [], as, _, h => by
    cases h
    exact ⟨.nil, rfl⟩
  | .inl j :: r, as, hd, h => by
    simp only [pick] at h
    obtain ⟨d, h1, h⟩ := Option.bind_eq_some_iff.mp h
    obtain ⟨as', h2, rfl⟩ := Option.map_eq_some_iff.mp h
    obtain ⟨a, b⟩ := ar_pick en ar hl (fun j d hm => hd j d (List.mem_cons_of_mem _ hm)) h2
    obtain ⟨_, pt⟩ := ar.pt hl
    obtain ⟨c, v, hc, hv, x⟩ := pt j d h1
    have ec : es.getD j .bad = c := by rw [List.getD_eq_getElem?_getD, hc]; rfl
    have ev : vs.getD j .non = v := by rw [List.getD_eq_getElem?_getD, hv]; rfl
    simp only [pickE, pickV]
    rw [ec, ev]
    rcases x with ⟨i, rfl, hg, hs⟩ | ⟨hn, r⟩
    · exact ⟨.slot hs a, by simp only [late]; rw [hg, b]; rfl⟩
    · refine ⟨.val hn r a, ?_⟩
      have e1 : ∀ d ds es, late (c :: es) (d :: ds) e = (late es ds e).map (d :: ·) := fun d ds es => by
        cases c <;> first | rfl | exact absurd rfl (hn _)
      rw [e1, b]; rfl
  | .inr (j, d) :: r, as, hd, h => by
    simp only [pick] at h
    obtain ⟨as', h2, rfl⟩ := Option.map_eq_some_iff.mp h
    obtain ⟨a, b⟩ := ar_pick en ar hl (fun j d hm => hd j d (List.mem_cons_of_mem _ hm)) h2
    simp only [pickE, pickV]
    exact ⟨.val (fun i => by simp) (hd j d List.mem_cons_self) a, by simp only [late]; rw [b]; rfl⟩
theorem lent_of : ∀ {kd : List Kd} {cs : List E}, lentOk B kd cs = true → cs.length = kd.length ∧ (∀ (j : Nat) c, kd[j]? = some Kd.m → cs[j]? = some c → ∃ i, c = E.v i ∧ B.mk' i = Kd.m) ∧ (∀ (j : Nat) i, kd[j]? = some Kd.n → cs[j]? = some (E.v i) → B.mk' i = .n)
  | [], [], _ => ⟨rfl, fun j c h => by simp at h, fun j c h => by simp at h⟩
  | [], _ :: _, h => by cases h
  | _ :: _, [], h => by cases h
  | k :: ks, c :: cs, h => by
    simp only [lentOk, Bool.and_eq_true] at h
    obtain ⟨h1, h2⟩ := h
    obtain ⟨a, b, d⟩ := lent_of h2
    refine ⟨congrArg (· + 1) a, fun j c' e1 e2 => ?_, fun j i e1 e2 => ?_⟩
    · cases j with
      | zero =>
        simp only [List.getElem?_cons_zero, Option.some.injEq] at e1 e2
        subst e1 e2
        cases c <;> first | (simp at h1; done) | skip
        rename_i i
        exact ⟨i, rfl, by simpa using h1⟩
      | succ j => exact b j c' (by simpa using e1) (by simpa using e2)
    · cases j with
      | zero =>
        simp only [List.getElem?_cons_zero, Option.some.injEq] at e1 e2
        subst e1 e2
        simpa using h1
      | succ j => exact d j i (by simpa using e1) (by simpa using e2)
theorem l_callK (X0 : XO T pg g q KK n B sc X) {s : Nat} {h : Sh} {d0 : Df} {x : Str} {es : List Expr} {kws : List Keyword} {px pos : Pos} {cs : List E} (hg : isG sc x = true) (ho : okN x = true) (hf : T.fns.lookup x = some h.f) (hs : pg.sh[s]? = some h) (hd : pg.defs[h.f]? = some d0) (hnp : h.np = es.length) (hk : kwOk h.ks kws = true)
    (L : Lent B.mk' d0.fi.kd (pickE h.sel cs)) (ops : Ops X g B.mk' (pg.prOf (pg.callN KK n)) cs (es ++ kws.map (·.value))) : PE X (.Call (.Name x px) es kws pos) (rdE d0.fi.own g B.mk' (evE (pg.prOf (pg.callN KK n)) (.callK s cs))) := by
  obtain ⟨c1, c2, rfl, o1, o2⟩ := ops.split
  obtain ⟨gU, kb⟩ := X0.gf.kb s h hs ⟨x, hf⟩
  obtain ⟨k1, k2, k3, k4⟩ := kw_all (pos := pos) (env := X.env) hk
  obtain ⟨m1, m2⟩ := X0.gf.nm x h.f hf
  have hsh : (pg.prOf (pg.callN KK n)).sh s = h := by
    show pg.sh.getD s _ = h
    rw [List.getD_eq_getElem?_getD, hs]; rfl
  have hfi : (pg.prOf (pg.callN KK n)).fi h.f = d0.fi := by
    show pg.fiOf h.f = _
    unfold Pg.fiOf
    rw [hd]
  have key : ∀ (σ : L2.St) (H : Hp) (Q : VK), rdE d0.fi.own g B.mk' (evE (pg.prOf (pg.callN KK n)) (.callK s (c1 ++ c2))) σ H Q →
      tCallN h.np h.ks.length (spOf g d0.fi (pg.callN KK n h.f)) (fun vs zs => pickV h.sel (q.dv h.f) (vs ++ zs)) E0 (rdOs g B.mk' (pg.prOf (pg.callN KK n)) c1) (rdOs g B.mk' (pg.prOf (pg.callN KK n)) c2) σ H Q := fun σ H Q hq => by
    obtain ⟨F, ev, en, hq⟩ := hq
    simp only [evE] at hq
    rcases R_cases (evEs (pg.prOf (pg.callN KK n)) (c1 ++ c2) ev) with ⟨ds, e1, he⟩ | ⟨y, e1, he⟩ | he <;> rw [he] at hq <;> simp only [R.bind] at hq
    all_goals first | exact hq.elim | skip
    cases hl : late (c1 ++ c2) ds e1 with
    | none => rw [hl] at hq; exact hq.elim
    | some ds' =>
      rw [hl] at hq
      simp only at hq
      rw [hsh] at hq
      cases hp : pick h.sel ds' with
      | none => rw [hp] at hq; exact hq.elim
      | some as =>
        rw [hp] at hq
        simp only at hq
        rw [hfi] at hq
        have h0 : rdOs g B.mk' (pg.prOf (pg.callN KK n)) (c1 ++ c2) σ H fun ws H1 => ws.length = (c1 ++ c2).length ∧ spOf g d0.fi (pg.callN KK n h.f) (pickV h.sel (q.dv h.f) ws) H1 Q E0 := by
          refine ops_use en he fun F1 H1 vs a ar => ⟨ar.lens.1, ?_⟩
          obtain ⟨ar', hl'⟩ := ar_pick (q := q) (f := h.f) a.en ar hl (fun j d hm => X0.gf.dv s h j d hs hm F1 H1) hp
          obtain ⟨hlen, _⟩ := ar'.pt hl'
          refine ⟨by rw [ar'.lens.1, L.len], F1, as, by rw [hlen, ar'.lens.1], par_env L a.en ar' hl', ?_⟩
          have hcall : (pg.prOf (pg.callN KK n)).call h.f as = pg.callN KK n h.f as := rfl
          rw [hcall] at hq
          cases hc : pg.callN KK n h.f as with
          | err y => rw [hc] at hq; exact hq.elim
          | bad => rw [hc] at hq; exact hq.elim
          | ok d outs =>
            rw [hc] at hq
            simp only [fin] at hq
            intro F2 H2 v e' hle b ho r
            subst ho
            refine hq F2 H2 v (a.trans (aft_call L a.en ar' hl' hle b)) ?_
            unfold RV at r ⊢
            split
            · rename_i hcc
              rw [if_pos hcc] at r
              obtain ⟨q, e1, hn, nf, ro⟩ := r
              exact ⟨q, e1, a.st.fresh hn, nf, ro⟩
            · rename_i hcc
              rw [if_neg hcc] at r
              exact r
        refine rdOs_mono (rdOs_app h0) fun vs H1 h1 => rdOs_mono h1 fun zs H2 ⟨h2, h3, h4⟩ => ⟨by rw [h2, o1.len, hnp], ?_, h4⟩
        rw [List.length_append, List.length_append, h2] at h3
        have : c2.length = h.ks.length := by rw [o2.len, List.length_map, k4]
        omega
  cases es with
  | nil =>
    cases o1
    rw [hnp] at kb
    refine PE.weak (pe_callN0 (X0.gf.ok h.f d0 hd) (X0.room.mono (by omega)) (gl_of X0 hg) m1 m2 kb pass0 (Ops.pk o2) k1 k2 (okN_of ho).1 (by rw [k3]; rfl)) fun σ H Q hq => ?_
    have := key σ H Q hq
    rw [hnp] at this
    exact this
  | cons e r =>
    have hn : nst e = true := by cases o1 with | cons _ hn _ => exact hn
    refine PE.weak (pe_callN (X0.gf.ok h.f d0 hd) (X0.room.mono (by omega)) (gl_of X0 hg) m1 m2 kb pass0 o1.pa (Ops.pk o2) k1 k2 (okN_of ho).1 (star_ns hn _ _) (by rw [o1.plain pos, k3]; rfl)) fun σ H Q hq => key σ H Q hq
end
end TE
/-! Te23c: objects made. -/
namespace TE
open PySem L2
section
variable {T : Tb} {pg : Pg} {g : G} {q : Q9} {KK n : Nat} {B : Bl} {sc : Scope} {X : Cx} {p : Pr} {mk : Nat → Kd}
variable {F F1 F' : Addr → Prop} {H H1 H' : Hp} {σ : L2.St} {e e1 e' : Ev}
theorem AR.ext {σ' : L2.St} (h : ∀ (i : Nat) (v : V), σ[i]? = some (some v) → σ'[i]? = some (some v)) : ∀ {es : List E} {vs : List V} {ds : List D}, AR g F H σ es vs ds → AR g F H σ' es vs ds
  | _, _, _, .nil => .nil
  | _, _, _, .slot hs a => .slot (h _ _ hs) (AR.ext h a)
  | _, _, _, .val hn r a => .val hn r (AR.ext h a)
theorem late_ext (h : ∀ (i : Nat) (d : D), get e i = some d → get e' i = some d) : ∀ {es : List E} {ds r : List D}, late es ds e = some r → late es ds e' = some r
  | [], [], _, hl => hl
  | [], _ :: _, _, hl => by simp [late] at hl
  | c :: es, [], _, hl => by cases c <;> simp [late] at hl
  | c :: es, d :: ds, r, hl => by
    by_cases hv : ∃ i, c = .v i
    · obtain ⟨i, rfl⟩ := hv
      simp only [late] at hl ⊢
      obtain ⟨d', h1, hl⟩ := Option.bind_eq_some_iff.mp hl
      obtain ⟨r', h2, rfl⟩ := Option.map_eq_some_iff.mp hl
      rw [h i d' h1, late_ext h h2]; rfl
    · have e1 : ∀ e : Ev, late (c :: es) (d :: ds) e = (late es ds e).map (d :: ·) := fun e => by
        cases c <;> first | rfl | exact absurd ⟨_, rfl⟩ hv
      rw [e1] at hl ⊢
      obtain ⟨r', h2, rfl⟩ := Option.map_eq_some_iff.mp hl
      rw [late_ext h h2]; rfl
theorem back_ext {m : Nat} : ∀ {io : List Bool} {es : List E} {outs e e' : Ev}, (∀ i, i < m → get e i = get e' i) → m ≤ e.length → m ≤ e'.length → ∀ i, i < m → get (back io es outs e) i = get (back io es outs e') i
  | [], _, _, e, e', h, _, _, i, hi => by simp only [back]; exact h i hi
  | b :: io, [], outs, e, e', h, _, _, i, hi => by cases b <;> (simp only [back]; exact h i hi)
  | b :: io, c :: es, [], e, e', h, _, _, i, hi => by cases b <;> cases c <;> (simp only [back]; exact h i hi)
  | b :: io, c :: es, o :: outs, e, e', h, h1, h2, i, hi => by
    by_cases hv : b = true ∧ ∃ k, c = .v k
    · obtain ⟨rfl, k, rfl⟩ := hv
      show get (back io es outs (e.set k o)) i = get (back io es outs (e'.set k o)) i
      refine back_ext (fun j hj => ?_) (by rw [List.length_set]; exact h1) (by rw [List.length_set]; exact h2) i hi
      rw [get_set, get_set]
      by_cases z : k = j
      · rw [if_pos z, if_pos z, if_pos (by omega), if_pos (by omega)]
      · rw [if_neg z, if_neg z]; exact h j hj
    · have e1 : ∀ e : Ev, back (b :: io) (c :: es) (o :: outs) e = back io es outs e := fun e => by
        cases b <;> cases c <;> first | rfl | exact absurd ⟨rfl, _, rfl⟩ hv
      rw [e1, e1]
      exact back_ext h h1 h2 i hi
theorem get_ext {l : Nat} {d : D} (hl : e.length ≤ l) {i : Nat} : get (e ++ (List.replicate (l - e.length) none ++ [some d])) i = if i = l then some d else get e i := by
  unfold get
  rw [List.getElem?_append]
  by_cases h1 : i < e.length
  · rw [if_pos h1, if_neg (by omega)]
  · rw [if_neg h1, List.getElem?_append, List.length_replicate, List.getElem?_eq_none (by omega : e.length ≤ i)]
    by_cases h2 : i = l
    · rw [if_pos h2, if_neg (by omega)]
      rw [show i - e.length - (l - e.length) = 0 by omega]
      rfl
    · rw [if_neg h2]
      by_cases h3 : i - e.length < l - e.length
      · rw [if_pos h3, List.getElem?_replicate, if_pos h3]; rfl
      · rw [if_neg h3, List.getElem?_eq_none (by simp; omega)]
/-- the frame with a new object in a slot of its own -/
theorem made_env {C : Nat} {x dx : Addr} (en : REnv g mk F1 H1 σ e1) (hx : H1 x = none) (hdx : H1 dx = none) (hne : dx ≠ x) :
    REnv g (fun i => if i = σ.length then .m else mk i) F1 (upd (upd H1 dx (.own x)) x (.ins (g.ca C) dx [])) (σ ++ [some (.ref x)]) (e1 ++ (List.replicate (σ.length - e1.length) none ++ [some (.obj C [])])) ∧ Stp (fun _ => False) F1 H1 F1 (upd (upd H1 dx (.own x)) x (.ins (g.ca C) dx [])) := by
  have s1 := stp_new (o := HO.own x) en.fd hdx
  have hx1 : (upd H1 dx (.own x)) x = none := by rw [upd_ne (Ne.symm hne)]; exact hx
  have s2 := stp_new (F := F1) (o := HO.ins (g.ca C) dx []) s1.fd hx1
  have st := s1.trans s2 fun _ z => z
  have ge : ∀ i, get (e1 ++ (List.replicate (σ.length - e1.length) none ++ [some (D.obj C [])])) i = if i = σ.length then some (.obj C []) else get e1 i := fun i => get_ext en.len
  have gσ : ∀ i, i ≠ σ.length → ∀ v, σ[i]? = some (some v) → (σ ++ [some (V.ref x)])[i]? = some (some v) := fun i hi v h => by
    rw [List.getElem?_append_left (lt_of_get h)]; exact h
  have gl : (σ ++ [some (V.ref x)])[σ.length]? = some (some (.ref x)) := by simp
  have inv : ∀ i d, i ≠ σ.length → get (e1 ++ (List.replicate (σ.length - e1.length) none ++ [some (D.obj C [])])) i = some d → get e1 i = some d := fun i d hi h => by
    rw [ge, if_neg hi] at h; exact h
  have back : ∀ i v, i ≠ σ.length → (σ ++ [some (V.ref x)])[i]? = some (some v) → σ[i]? = some (some v) := fun i v hi h => by
    rw [List.getElem?_append] at h
    split at h
    · exact h
    · rename_i h2
      rw [List.getElem?_eq_none (by simp; omega)] at h
      cases h
  have ms : ∀ a, Ms (fun i => if i = σ.length then Kd.m else mk i) (σ ++ [some (V.ref x)]) (e1 ++ (List.replicate (σ.length - e1.length) none ++ [some (D.obj C [])])) a → a = x ∨ Ms mk σ e1 a := fun a ⟨i, d, h1, h2, h3⟩ => by
    by_cases hi : i = σ.length
    · subst hi
      rw [gl] at h3; cases h3
      exact .inl rfl
    · have h1 : (if i = σ.length then Kd.m else mk i) = .m := h1
      rw [if_neg hi] at h1
      exact .inr ⟨i, d, h1, inv i d hi h2, back i _ hi h3⟩
  refine ⟨⟨st.fd, fun i d h1 h2 => ?_, fun i d h1 h2 => ?_, fun i d h1 h2 => ?_, fun i j d d' a h1 h2 h3 h4 h5 h6 h7 => ?_, by have := en.len; simp; omega⟩, st⟩
  · have h1 : (if i = σ.length then Kd.m else mk i) = .n := h1
    by_cases hi : i = σ.length
    · rw [if_pos hi] at h1; cases h1
    · rw [if_neg hi] at h1
      obtain ⟨v, hv, r⟩ := en.n i d h1 (inv i d hi h2)
      exact ⟨v, gσ i hi v hv, r.stp mok0 st⟩
  · have h1 : (if i = σ.length then Kd.m else mk i) = .m := h1
    by_cases hi : i = σ.length
    · subst hi
      rw [ge, if_pos rfl] at h2
      cases h2
      exact ⟨x, gl, nfd en.fd hx, dx, [], by rw [upd_same]; simp, Nat.zero_le _, .nil⟩
    · rw [if_neg hi] at h1
      obtain ⟨P, hP, nf, r⟩ := en.m i d h1 (inv i d hi h2)
      exact ⟨P, gσ i hi _ hP, nf, r.stp mok0 st (fun z => z)⟩
  · have h1 : (if i = σ.length then Kd.m else mk i) = .b := h1
    by_cases hi : i = σ.length
    · rw [if_pos hi] at h1; cases h1
    · rw [if_neg hi] at h1
      obtain ⟨v, hv, r⟩ := en.b i d h1 (inv i d hi h2)
      refine ⟨v, gσ i hi v hv, ?_⟩
      rcases r with r | ⟨P, rfl, nm, r⟩
      · exact .inl (r.stp mok0 st)
      · refine .inr ⟨P, rfl, fun z => ?_, r.stp mok0 st fun z => z⟩
        rcases ms P z with z | z
        · obtain ⟨o, ho, _⟩ := root_mut r
          rw [z, hx] at ho; cases ho
        · exact nm z
  · have h1 : (if i = σ.length then Kd.m else mk i) = .m := h1
    have h2 : (if j = σ.length then Kd.m else mk j) = .m := h2
    have old : ∀ i d, mk i = .m → get e1 i = some d → σ[i]? ≠ some (some (.ref x)) := fun i d k1 k2 k3 => by
      obtain ⟨_, o, ho, _⟩ := en.mok x ⟨i, d, k1, k2, k3⟩
      rw [hx] at ho; cases ho
    by_cases hi : i = σ.length
    · have hj : j ≠ σ.length := fun z => h3 (hi.trans z.symm)
      rw [if_neg hj] at h2
      subst hi
      rw [gl] at h6; cases h6
      exact old j d' h2 (inv j d' hj h5) (back j _ hj h7)
    · rw [if_neg hi] at h1
      by_cases hj : j = σ.length
      · subst hj
        rw [gl] at h7; cases h7
        exact old i d h1 (inv i d hi h4) (back i _ hi h6)
      · rw [if_neg hj] at h2
        exact en.ne i j d d' a h1 h2 h3 (inv i d hi h4) (inv j d' hj h5) (back i _ hi h6) (back j _ hj h7)
theorem l_mkK (X0 : XO T pg g q KK n B sc X) {s C : Nat} {h : Sh} {d0 : Df} {kd' : List Kd} {x : Str} {es : List Expr} {kws : List Keyword} {px pos : Pos} {cs : List E} (hg : isG sc x = true) (ho : okN x = true) (hC : T.cls.lookup x = some C) (hCn : C < T.nC) (hini : pg.init[C]? = some h.f) (hs : pg.sh[s]? = some h) (hd : pg.defs[h.f]? = some d0) (hkd : d0.fi.kd = .m :: kd') (hnp : h.np = es.length) (hk : kwOk h.ks kws = true)
    (L : Lent B.mk' kd' (pickE h.sel cs)) (ops : Ops X g B.mk' (pg.prOf (pg.callN KK n)) cs (es ++ kws.map (·.value))) : PE X (.Call (.Name x px) es kws pos) (rdE true g B.mk' (evE (pg.prOf (pg.callN KK n)) (.mkK s C cs))) := by
  obtain ⟨c1, c2, rfl, o1, o2⟩ := ops.split
  obtain ⟨gU, kb⟩ := X0.gf.ki s h C hs hini hCn
  obtain ⟨k1, k2, k3, k4⟩ := kw_all (pos := pos) (env := X.env) hk
  have hm := X0.gf.cn x C hC
  have M := X0.gf.mkc C h.f hCn hini
  have hsh : (pg.prOf (pg.callN KK n)).sh s = h := by
    show pg.sh.getD s _ = h
    rw [List.getD_eq_getElem?_getD, hs]; rfl
  have hfi : (pg.prOf (pg.callN KK n)).fi h.f = d0.fi := by
    show pg.fiOf h.f = _
    unfold Pg.fiOf
    rw [hd]
  have key : ∀ (σ : L2.St) (H : Hp) (Q : VK), rdE true g B.mk' (evE (pg.prOf (pg.callN KK n)) (.mkK s C (c1 ++ c2))) σ H Q →
      rdOs g B.mk' (pg.prOf (pg.callN KK n)) c1 σ H fun vs H1 => rdOs g B.mk' (pg.prOf (pg.callN KK n)) c2 σ H1 fun zs H2 => vs.length = h.np ∧ zs.length = h.ks.length ∧
        ∀ x dx, H2 x = none → H2 dx = none → dx ≠ x → spOf g d0.fi (pg.callN KK n h.f) (.ref x :: pickV h.sel (q.dv h.f) (vs ++ zs)) (upd (upd H2 dx (.own x)) x (.ins (g.ca C) dx [])) (fun v H3 => v = .non ∧ Q (.ref x) H3) E0 := fun σ H Q hq => by
    obtain ⟨F, ev, en, hq⟩ := hq
    simp only [evE] at hq
    rcases R_cases (evEs (pg.prOf (pg.callN KK n)) (c1 ++ c2) ev) with ⟨ds, e1, he⟩ | ⟨y, e1, he⟩ | he <;> rw [he] at hq <;> simp only [R.bind] at hq
    all_goals first | exact hq.elim | skip
    cases hl : late (c1 ++ c2) ds e1 with
    | none => rw [hl] at hq; exact hq.elim
    | some ds' =>
      rw [hl] at hq
      simp only at hq
      rw [hsh] at hq
      cases hp : pick h.sel ds' with
      | none => rw [hp] at hq; exact hq.elim
      | some as =>
        rw [hp] at hq
        simp only at hq
        rw [hfi] at hq
        have hcall : (pg.prOf (pg.callN KK n)).call h.f (.obj C [] :: as) = pg.callN KK n h.f (.obj C [] :: as) := rfl
        rw [hcall] at hq
        have h0 : rdOs g B.mk' (pg.prOf (pg.callN KK n)) (c1 ++ c2) σ H fun ws H1 => ws.length = (c1 ++ c2).length ∧ ∀ x dx, H1 x = none → H1 dx = none → dx ≠ x → spOf g d0.fi (pg.callN KK n h.f) (.ref x :: pickV h.sel (q.dv h.f) ws) (upd (upd H1 dx (.own x)) x (.ins (g.ca C) dx [])) (fun v H3 => v = .non ∧ Q (.ref x) H3) E0 := by
          refine ops_use en he fun F1 H1 vs a ar => ⟨ar.lens.1, fun x dx hx hdx hne => ?_⟩
          obtain ⟨ar', hl'⟩ := ar_pick (q := q) (f := h.f) a.en ar hl (fun j d hm => X0.gf.dv s h j d hs hm F1 H1) hp
          obtain ⟨en2, st2⟩ := made_env (C := C) a.en hx hdx hne
          have hlen1 := a.en.len
          have ge : ∀ i, get (e1 ++ (List.replicate (σ.length - e1.length) none ++ [some (D.obj C [])])) i = if i = σ.length then some (.obj C []) else get e1 i := fun i => get_ext hlen1
          have gl : (σ ++ [some (V.ref x)])[σ.length]? = some (some (.ref x)) := by simp
          generalize hE : e1 ++ (List.replicate (σ.length - e1.length) none ++ [some (D.obj C [])]) = E2 at en2 ge
          generalize hH : upd (upd H1 dx (.own x)) x (.ins (g.ca C) dx []) = H2 at en2 st2 ⊢
          have lt1 : ∀ i d, get e1 i = some d → i ≠ σ.length := fun i d hi z => by
            have := get_lt hi
            omega
          have ar2 : AR g F1 H2 (σ ++ [some (V.ref x)]) (.v σ.length :: pickE h.sel (c1 ++ c2)) (.ref x :: pickV h.sel (q.dv h.f) vs) (.obj C [] :: as) := .slot gl (AR.ext (fun i v hi => by
            rw [List.getElem?_append_left (lt_of_get hi)]; exact hi) (ar'.stp mok0 st2))
          have hl2 : late (.v σ.length :: pickE h.sel (c1 ++ c2)) (.obj C [] :: as) E2 = some (.obj C [] :: as) := by
            simp only [late]
            rw [ge, if_pos rfl, late_ext (fun i d hi => by rw [ge, if_neg (lt1 i d hi)]; exact hi) hl']; rfl
          obtain ⟨hal, apt⟩ := ar'.pt hl'
          have vlt : ∀ (j : Nat) i, (pickE h.sel (c1 ++ c2))[j]? = some (E.v i) → i ≠ σ.length := fun j i hj => by
            have hjl : j < as.length := by rw [hal]; exact lt_of_get hj
            obtain ⟨c, v, hc, _, y⟩ := apt j _ (List.getElem?_eq_getElem hjl)
            rw [hj] at hc; cases hc
            rcases y with ⟨i', hi, hg, _⟩ | ⟨hn, _⟩
            · cases hi; exact lt1 _ _ hg
            · exact absurd rfl (hn i)
          have L2 : Lent (fun i => if i = σ.length then .m else B.mk' i) d0.fi.kd (.v σ.length :: pickE h.sel (c1 ++ c2)) := by
            rw [hkd]
            refine ⟨congrArg (· + 1) L.len, fun j c hj hc => ?_, fun j i hj hc => ?_, fun j k i hj hc hc' => ?_⟩
            · cases j with
              | zero =>
                simp only [List.getElem?_cons_zero, Option.some.injEq] at hc
                exact ⟨_, hc.symm, if_pos rfl⟩
              | succ j =>
                obtain ⟨i, rfl, hm⟩ := L.m j c (by simpa using hj) (by simpa using hc)
                refine ⟨i, rfl, ?_⟩
                by_cases z : i = σ.length
                · exact if_pos z
                · show (if i = σ.length then Kd.m else B.mk' i) = .m
                  rw [if_neg z]; exact hm
            · cases j with
              | zero => simp at hj
              | succ j =>
                have hc : (pickE h.sel (c1 ++ c2))[j]? = some (E.v i) := by simpa using hc
                show (if i = σ.length then Kd.m else B.mk' i) = .n
                rw [if_neg (vlt j i hc)]
                exact L.n j i (by simpa using hj) hc
            · cases j with
              | zero =>
                simp only [List.getElem?_cons_zero, Option.some.injEq, E.v.injEq] at hc
                cases k with
                | zero => rfl
                | succ k =>
                  have hc' : (pickE h.sel (c1 ++ c2))[k]? = some (E.v i) := by simpa using hc'
                  exact absurd hc.symm (vlt k i hc')
              | succ j =>
                have hc : (pickE h.sel (c1 ++ c2))[j]? = some (E.v i) := by simpa using hc
                cases k with
                | zero =>
                  simp only [List.getElem?_cons_zero, Option.some.injEq, E.v.injEq] at hc'
                  exact absurd hc'.symm (vlt j i hc)
                | succ k => exact congrArg (· + 1) (L.u j k i (by simpa using hj) hc (by simpa using hc'))
          refine ⟨by rw [hkd]; show _ + 1 = _ + 1; rw [ar'.lens.1, L.len], F1, .obj C [] :: as, by show _ + 1 = _ + 1; rw [hal, ar'.lens.1], par_env L2 en2 ar2 hl2, ?_⟩
          cases hc : pg.callN KK n h.f (.obj C [] :: as) with
          | err y => rw [hc] at hq; exact hq.elim
          | bad => rw [hc] at hq; exact hq.elim
          | ok d outs =>
            rw [hc] at hq
            cases d <;> first | (exact hq.elim) | skip
            case non =>
              rcases outs with _ | ⟨_ | dO, outs⟩
              · exact hq.elim
              · exact hq.elim
              · simp only at hq
                intro F2 H3 v e' hle b hoo r
                have hv : v = .non := by
                  unfold RV at r
                  rw [if_neg (by simp [D.isM])] at r
                  cases r; rfl
                refine ⟨hv, ?_⟩
                have af := aft_call L2 en2 ar2 hl2 hle b
                have hio : d0.fi.kd.map isM = true :: kd'.map isM := by rw [hkd]; rfl
                have hoo' : outsOf (d0.fi.kd.map isM) e' = some dO :: outs := hoo
                rw [hoo', hio] at af
                have hb0 : back (true :: kd'.map isM) (.v σ.length :: pickE h.sel (c1 ++ c2)) (some dO :: outs) E2 = back (kd'.map isM) (pickE h.sel (c1 ++ c2)) outs (E2.set σ.length (some dO)) := rfl
                rw [hb0] at af
                have hEl : σ.length < E2.length := by
                  rw [← hE]; simp; omega
                have hgx : get (back (kd'.map isM) (pickE h.sel (c1 ++ c2)) outs (E2.set σ.length (some dO))) σ.length = some dO := by
                  rw [back_other fun j _ hj => vlt j _ hj rfl, get_set, if_pos rfl, if_pos hEl]
                have hgo : ∀ i, i < e1.length → get (back (kd'.map isM) (pickE h.sel (c1 ++ c2)) outs (E2.set σ.length (some dO))) i = get (back (kd'.map isM) (pickE h.sel (c1 ++ c2)) outs e1) i := fun i hi => back_ext (m := e1.length) (fun j hj => by
                  rw [get_set, if_neg (by omega), ge, if_neg (by omega)]) (by rw [List.length_set]; omega) (Nat.le_refl _) i hi
                have hin : ∀ i t, get (back (kd'.map isM) (pickE h.sel (c1 ++ c2)) outs e1) i = some t → i ≠ σ.length ∧ get (back (kd'.map isM) (pickE h.sel (c1 ++ c2)) outs (E2.set σ.length (some dO))) i = some t := fun i t hi => by
                  have hil := get_lt hi
                  rw [back_len] at hil
                  exact ⟨by omega, by rw [hgo i hil]; exact hi⟩
                have sig : ∀ i, i ≠ σ.length → ∀ w, (σ ++ [some (V.ref x)])[i]? = some (some w) → σ[i]? = some (some w) := fun i hi w hw => by
                  rw [List.getElem?_append] at hw
                  split at hw
                  · exact hw
                  · rw [List.getElem?_eq_none (by simp; omega)] at hw
                    cases hw
                have gis : ∀ i w, σ[i]? = some (some w) → (σ ++ [some (V.ref x)])[i]? = some (some w) := fun i w hw => by
                  rw [List.getElem?_append_left (lt_of_get hw)]; exact hw
                have mkn : ∀ i, i ≠ σ.length → (if i = σ.length then Kd.m else B.mk' i) = B.mk' i := fun i hi => if_neg hi
                obtain ⟨x', hx', nfx, rox⟩ := af.en.m σ.length dO (if_pos rfl) hgx
                rw [gl] at hx'; cases hx'
                have msA : ∀ a, Ms B.mk' σ (back (kd'.map isM) (pickE h.sel (c1 ++ c2)) outs e1) a → Ms (fun i => if i = σ.length then .m else B.mk' i) (σ ++ [some (V.ref x)]) (back (kd'.map isM) (pickE h.sel (c1 ++ c2)) outs (E2.set σ.length (some dO))) a := fun a ⟨i, t, m1, m2, m3⟩ => by
                  obtain ⟨hi, m2⟩ := hin i t m2
                  exact ⟨i, t, (mkn i hi).trans m1, m2, gis i _ m3⟩
                have msB : ∀ a, Ms (fun i => if i = σ.length then .m else B.mk' i) (σ ++ [some (V.ref x)]) E2 a → Ms B.mk' σ e1 a ∨ H1 a = none := fun a ⟨i, t, m1, m2, m3⟩ => by
                  by_cases hi : i = σ.length
                  · subst hi
                    rw [gl] at m3; cases m3
                    exact .inr hx
                  · have m1 : (if i = σ.length then Kd.m else B.mk' i) = .m := m1
                    rw [if_neg hi] at m1
                    rw [ge, if_neg hi] at m2
                    exact .inl ⟨i, t, m1, m2, sig i hi _ m3⟩
                have stF : Stp (Ms B.mk' σ e1) F1 H1 F2 H3 := (st2.weak (M' := Ms B.mk' σ e1) fun _ z => z.elim).trans' af.st msB
                have sub3 : Sub B.mk' e1 (back (kd'.map isM) (pickE h.sel (c1 ++ c2)) outs e1) := fun i t m1 m2 => by
                  obtain ⟨hi, m2⟩ := hin i t m2
                  obtain ⟨t0, m3, m4⟩ := af.sub i t (by show (if i = σ.length then Kd.m else B.mk' i) ≠ .n; rw [if_neg hi]; exact m1) m2
                  rw [ge, if_neg hi] at m3
                  exact ⟨t0, m3, fun hb => m4 ((mkn i hi).trans hb)⟩
                have en3 : REnv g B.mk' F2 H3 σ (back (kd'.map isM) (pickE h.sel (c1 ++ c2)) outs e1) := by
                  refine ⟨af.en.fd, fun i t m1 m2 => ?_, fun i t m1 m2 => ?_, fun i t m1 m2 => ?_, fun i j t t' a m1 m2 m3 m4 m5 m6 m7 => ?_, by rw [back_len]; exact hlen1⟩
                  · obtain ⟨hi, m2⟩ := hin i t m2
                    obtain ⟨w, hw, rr⟩ := af.en.n i t ((mkn i hi).trans m1) m2
                    exact ⟨w, sig i hi w hw, rr⟩
                  · obtain ⟨hi, m2⟩ := hin i t m2
                    obtain ⟨w, hw, rr⟩ := af.en.m i t ((mkn i hi).trans m1) m2
                    exact ⟨w, sig i hi _ hw, rr⟩
                  · obtain ⟨hi, m2⟩ := hin i t m2
                    obtain ⟨w, hw, rr⟩ := af.en.b i t ((mkn i hi).trans m1) m2
                    exact ⟨w, sig i hi w hw, rr.imp id fun ⟨P, e0, nm, ro⟩ => ⟨P, e0, fun z => nm (msA P z), ro⟩⟩
                  · obtain ⟨hi, m4⟩ := hin i t m4
                    obtain ⟨hj, m5⟩ := hin j t' m5
                    exact af.en.ne i j t t' a ((mkn i hi).trans m1) ((mkn j hj).trans m2) m3 m4 m5 (gis i _ m6) (gis j _ m7)
                have hdr : (d0.fi.io.drop 1) = kd'.map isM := by
                  show (d0.fi.kd.map isM).drop 1 = _
                  rw [hio]; rfl
                rw [hdr] at hq
                refine hq F2 H3 (.ref x) (a.trans ⟨stF, en3, sub3⟩) ?_
                unfold RV
                rw [if_pos (by rw [root_isM rox]; rfl)]
                exact ⟨x, rfl, a.st.fresh hx, nfx, rox⟩
        refine rdOs_mono (rdOs_app h0) fun vs H1 h1 => rdOs_mono h1 fun zs H2 ⟨h2, h3, h4⟩ => ⟨by rw [h2, o1.len, hnp], ?_, h4⟩
        rw [List.length_append, List.length_append, h2] at h3
        have : c2.length = h.ks.length := by rw [o2.len, List.length_map, k4]
        omega
  cases es with
  | nil =>
    cases o1
    rw [hnp] at kb
    refine PE.weak (pe_makeK0 M (X0.gf.ok h.f d0 hd) (X0.room.mono (by omega)) (gl_of X0 hg) hm kb pass0 (Ops.pk o2) k1 k2 (okN_of ho).1 (by rw [k3]; rfl)) fun σ H Q hq => ?_
    refine rdOs_mono (key σ H Q hq) fun zs H2 ⟨_, h3, h4⟩ => ⟨rfl, h3, h4⟩
  | cons e r =>
    have hn : nst e = true := by cases o1 with | cons _ hn _ => exact hn
    refine PE.weak (pe_makeN M (X0.gf.ok h.f d0 hd) (X0.room.mono (by omega)) (gl_of X0 hg) hm kb pass0 o1.pa (Ops.pk o2) k1 k2 (okN_of ho).1 (star_ns hn _ _) (by rw [o1.plain pos, k3]; rfl)) fun σ H Q hq => key σ H Q hq
end
end TE
/-! Tk1: operators of own classes, at the library's level. -/
namespace TK
open PySem PySem.W PySem.Calls PyProof.Rows
section
open AutoSeq1 (wpAny_loadPart')
variable {prog : Program} {w : World} {M : Model} {A : Around} {E : Value → Shared → Prop} {s : Shared} {K : Frag} {x y C L f fa : Addr} {h₀ : Heap} {m : Str → Option Value} {ox oy : Obj} {od od' : Option Obj} {i : Int} {t : Tok}
theorem body_ref {nm : String} {g : Int → Int → Sem Fin} (hx : s.heap.get? x = some ox) (hp : ox.data = .plain) {Q : Fin → Shared → Prop} (h : Q (.done (.ret .notImplemented)) s) :
    wpAny M A (Builtin.Int.intBinary nm g false ⟨[.int i t, .ref x], []⟩) Q E s := by
  unfold Builtin.Int.intBinary
  refine wpAny_bind (wpAny_pure ?_)
  refine wpAny_bind (wpAny_bind (wpAny_pure (wpAny_pure ?_)))
  refine wpAny_bind (m := asInt? (.ref x)) (wpAny_bind (wpAny_load hx ?_))
  rw [hp]
  refine wpAny_pure ?_
  refine wpAny_bind (wpAny_rule ?_)
  exact wpAny_pure h
theorem decl_of {T : String} {name : Str} {id : String} {B : Builtin} {a b : Value} (slot : Slot T name id) (hT : s.TypeIs a T) (entry : entryFor table id = some B) (args : argsOk id ⟨[a, b], []⟩)
    (body : ∀ (A : Around) (E : Value → Shared → Prop) (Q : Fin → Shared → Prop), Q (.done (.ret .notImplemented)) s → wpAny (model prog w) A (B ⟨[a, b], []⟩) Q E s) : wpAny (model prog w) A (tryMethod a name b) (fun r s' => r = none ∧ s' = s) E s :=
  wpAny_tryMethod_declines hT slot (wpAny_call (codeAny_call_builtin slot.plain entry (slot.check _ _ _ _ _ _ _ _ hT args (body _ _ _ ⟨rfl, rfl, rfl⟩))))
theorem decl_add (hx : s.heap.get? x = some ox) (hp : ox.data = .plain) : wpAny (model prog w) A (tryMethod (.int i t) (PySem.dunder "add") (.ref x)) (fun r s' => r = none ∧ s' = s) E s := by
  have h1 := PySem.F.slot_int_add
  have h2 := PySem.F.entry_int_add
  have h3 : argsOk "int.__add__" ⟨[.int i t, .ref x], []⟩ := PySem.F.args_int_add_2 _ _
  have h4 : s.TypeIs (.int i t) "int" := typeIs_int s i t
  have h5 : ∀ (A : Around) (E : Value → Shared → Prop) (Q : Fin → Shared → Prop), Q (.done (.ret .notImplemented)) s → wpAny (model prog w) A (Builtin.«int.__add__» ⟨[.int i t, .ref x], []⟩) Q E s := fun _ _ _ h => by
    unfold Builtin.«int.__add__»
    exact body_ref hx hp h
  generalize Builtin.«int.__add__» = B at h2 h5
  have g1 := @decl_of prog w A E s "int" (PySem.dunder "add") "int.__add__" B (.int i t) (.ref x)
  have g2 := g1 h1
  have g3 := g2 h4
  have g4 := g3 h2
  have g5 := g4 h3
  exact g5 h5
theorem decl_mul (hx : s.heap.get? x = some ox) (hp : ox.data = .plain) : wpAny (model prog w) A (tryMethod (.int i t) (PySem.dunder "mul") (.ref x)) (fun r s' => r = none ∧ s' = s) E s := by
  have h1 := PySem.F.slot_int_mul
  have h2 := PySem.F.entry_int_mul
  have h3 : argsOk "int.__mul__" ⟨[.int i t, .ref x], []⟩ := PySem.F.args_int_mul_2 _ _
  have h4 : s.TypeIs (.int i t) "int" := typeIs_int s i t
  have h5 : ∀ (A : Around) (E : Value → Shared → Prop) (Q : Fin → Shared → Prop), Q (.done (.ret .notImplemented)) s → wpAny (model prog w) A (Builtin.«int.__mul__» ⟨[.int i t, .ref x], []⟩) Q E s := fun _ _ _ h => by
    unfold Builtin.«int.__mul__»
    exact body_ref hx hp h
  generalize Builtin.«int.__mul__» = B at h2 h5
  have g1 := @decl_of prog w A E s "int" (PySem.dunder "mul") "int.__mul__" B (.int i t) (.ref x)
  have g2 := g1 h1
  have g3 := g2 h4
  have g4 := g3 h2
  have g5 := g4 h3
  exact g5 h5
/-- int op instance: the int declines, the instance's reflected def takes -/
theorem bin_refl {op : Operator} {Q : Value → Shared → Prop} (F : Fr h₀ L s.heap m) (X₀ : K.In h₀) (I : InstAt s.heap x ox C od) (hc : selfFirst K C = true)
    (hs : findIn K (.ref C) (PySem.dunder op.info.2) = some (some (.ref fa))) (hr : findIn K (.ref C) (dunderR op.info.2) = some (some (.ref f))) (hf : isFn K (.ref f) = true)
    (hfi : fillsNumberSlot (.type "int") op.info.2 = pure true) (hsub : subIn K (.ref C) (.type "int") = some false)
    (decl : wpAny (model prog w) A (tryMethod (.int i t) (PySem.dunder op.info.2) (.ref x)) (fun r s' => r = none ∧ s' = s) E s)
    (h : wpAny (model prog w) A (call (.ref f) [.ref x, .int i t]) (PySem.W.CmpBack Q) E s) : wpAny (model prog w) A (binaryOp op (.int i t) (.ref x)) Q E s := by
  have X := X₀.keeps F.keep
  obtain ⟨cd, rest, hcd, hm⟩ := ksp_first hc
  rcases hi : op.info with ⟨sym, nm'⟩
  rw [hi] at hs hr hfi decl
  dsimp only at hs hr hfi decl
  have two := ksp_try X I hr hf h
  have hne : (Value.type "int" == Value.ref C) = false := rfl
  have hpy : numberSlotInPython (.type "int") nm' = pure false := rfl
  simp only [binaryOp, hi]
  refine wpAny_holding (wpAny_bind ?_)
  unfold binaryOp1
  refine wpAny_bind (wpAny_typeOf (typeIs_int s i t) (wpAny_bind (I.type.here (wpAny_bind (wpAny_of_eq hfi ?_)))))
  simp only [hne, Bool.false_eq_true, if_false]
  refine wpAny_bind ((fills_K X hcd hm hs).here ?_)
  simp only [Bool.and_self, if_true]
  refine wpAny_bind ((looks_subIn X hsub).here ?_)
  simp only [Bool.false_eq_true, if_false, pure_bind, Bool.not_false, Bool.and_self, if_true, hpy]
  refine wpAny_bind (wpAny_mono decl (fun r s' z => ?_) fun _ _ e => e)
  obtain ⟨rfl, rfl⟩ := z
  refine wpAny_bind (wpAny_mono two (fun r s' z => ?_) fun _ _ e => e)
  obtain ⟨v, rfl, hq⟩ := z
  exact wpAny_bind (wpAny_rule (wpAny_pure (wpAny_pure hq)))
theorem ifBound_b {name : Str} {id : String} {args : List Value} {Q : Option Value → Shared → Prop} (X : K.In s.heap) (I : InstAt s.heap x ox C od) (hs : findIn K (.ref C) name = some (some (.builtin id)))
    (hb : ∀ self, bindSpecial (.builtin id) self = pure (.builtin id, [self])) (h : wpAny M A (call (.builtin id) (.ref x :: args)) (fun v => Q (some v)) E s) : wpAny M A (callSpecialIfBound? (.ref x) name args) Q E s := by
  simp only [callSpecialIfBound?, bindSpecialIfBound?]
  refine wpAny_holding (wpAny_bind (wpAny_bind (wpAny_bind (I.type.here ((looks_findIn X hs).here ?_)))))
  refine wpAny_bind (wpAny_askSetting (wpAny_ite ?_))
  have fin : wpAny M A (call (.builtin id) ([.ref x] ++ args) >>= fun v => pure (some v)) Q E s := wpAny_bind (wpAny_mono h (fun v s' h' => wpAny_pure h') fun _ _ h' => h')
  split
  · exact wpAny_bind ((Looks.of_pure (hb _)).here (wpAny_pure (by exact fin)))
  · exact wpAny_tryCatch (wpAny_bind ((Looks.of_pure (hb _)).here (wpAny_pure (by exact fin))))
/-- != of two instances of a class with an own == alone -/
theorem ne_own {Q : Value → Shared → Prop} (hu : A.units + 1 < cLine) (F : Fr h₀ L s.heap m) (X₀ : K.In h₀) (I : InstAt s.heap x ox C od) (J : InstAt s.heap y oy C od') (hm : mroIn K C (.type "object") = some true)
    (hne : findIn K (.ref C) "__ne__" = some (some (.builtin "object.__ne__"))) (hs : findIn K (.ref C) "__eq__" = some (some (.ref f))) (hf : isFn K (.ref f) = true)
    (h : wpAny (model prog w) A.in1 (call (.ref f) [.ref x, .ref y]) (fun v s' => ∃ b, v = .bool b ∧ Q (.bool (!b)) s') E s) : wpAny (model prog w) A (richCompare .NotEq (.ref x) (.ref y)) Q E s := by
  have X := X₀.keeps F.keep
  unfold richCompare
  simp only [oneThing_ref]
  refine wpAny_holding (wpAny_bind (wpAny_cRoomFor (Nat.lt_of_succ_lt hu) ?_))
  rw [cmpInfo_NotEq]
  dsimp only
  refine wpAny_bind (I.type.here (wpAny_bind (J.type.here ?_)))
  rw [show (Value.ref C != Value.ref C) = false from by simp]
  simp only [Bool.false_eq_true, if_false]
  refine wpAny_bind (wpAny_pure ?_)
  simp only [Bool.false_eq_true, if_false]
  have one : wpAny (model prog w) A (tryCompare (.ref x) "__ne__" (.ref y)) (fun r s' => ∃ b, r = some (.bool b) ∧ Q (.bool b) s') E s := by
    unfold tryCompare
    refine wpAny_bind (ifBound_b X I hne (fun _ => by kernel_rfl) (wpAny_call (codeAny_call_builtin (by decide +kernel) PySem.F.cmpEntry_ne (check_slot (i := "object.__ne__") (owner := "object") (n := "__ne__") (by decide +kernel) (by decide +kernel) (I.type.andThen (looks_mroIn X hm)) (PySem.F.cmpArgs_ne _ _) ?_))))
    unfold Builtin.«object.__ne__»
    repeat (first
      | with_reducible refine wpAny_cRoomFor (by exact Nat.lt_of_le_of_lt (Nat.le_of_eq rfl) hu) ?_
      | (refine wpAny_bind (m := callSpecialIfBound? (.ref x) (Str.ofString "__eq__") [.ref y]) (ifBound_K X I hs hf (wpAny_mono h (fun r s' hr => by
            obtain ⟨b, rfl, hq⟩ := hr
            repeat (first | exact hq | exact wpAny_pure hq | exact wpAny_truthy_bool hq | (refine wpAny_bind (m := truthy (.bool _)) (wpAny_truthy_bool ?_)) | wp_step)
            exact ⟨_, rfl, hq⟩) fun _ _ e => e)))
      | wp_step)
  refine wpAny_bind (wpAny_mono one (fun r s' z => ?_) fun _ _ e => e)
  obtain ⟨b, rfl, hq⟩ := z
  exact wpAny_pure hq
end
end TK
/-! Te23d: operators of own classes. -/
namespace TE
open PySem L2
section
variable {T : Tb} {pg : Pg} {g : G} {q : Q9} {KK n : Nat} {B : Bl} {sc : Scope} {X : Cx} {p : Pr} {mk : Nat → Kd}
theorem own_plain {w : Ow} {cs : List E} {fr : Bool} {σ : L2.St} {H : Hp} {Q : VK} (nk : NK mk cs) (h : rdE fr g mk (evE p (.own w cs)) σ H Q) : rdOs g mk p cs σ H fun vs H1 => ∃ F ds d, FD F H1 ∧ Reps g F H1 vs ds ∧ p.ownD w ds = some d ∧ PostV fr g F H1 d Q := by
  obtain ⟨F, e, en, h⟩ := h
  simp only [evE] at h
  cases h1 : evEs p cs e with
  | err x e1 => rw [h1] at h; exact h.elim
  | bad => rw [h1] at h; exact h.elim
  | ok ds e1 =>
    rw [h1] at h
    simp only [R.bind] at h
    cases h2 : late cs ds e1 with
    | none => rw [h2] at h; exact h.elim
    | some ds' =>
      rw [h2] at h
      simp only at h
      cases h3 : p.ownD w ds' with
      | none => rw [h3] at h; exact h.elim
      | some d =>
        rw [h3] at h
        exact ops_use en h1 fun F1 H1 vs a ar => ⟨F1, ds', d, a.en.fd, ar.reps a.en h2 nk, h3, post_of a h⟩
theorem kdf_n {kd : List Kd} (h : ∀ k ∈ kd, k = .n) (i : Nat) : kdf kd i = .n := by
  unfold kdf
  rw [List.getD_eq_getElem?_getD]
  cases e : kd[i]? with
  | none => rfl
  | some k => exact h k (List.mem_of_getElem? e)
theorem env_n {F : Addr → Prop} {H : Hp} {kd : List Kd} {vs : List V} {ds : List D} (hk : ∀ k ∈ kd, k = .n) (fd : FD F H) (r : Reps g F H vs ds) : REnv g (kdf kd) F H (vs.map some) (ds.map some) := by
  refine ⟨fd, fun i d _ h => ?_, fun i d h1 _ => ?_, fun i d h1 _ => ?_, fun i j d d' a h1 _ _ _ _ _ => ?_, by rw [List.length_map, List.length_map, r.length]; exact Nat.le_refl _⟩
  · obtain ⟨v, hv, x⟩ := r.get (get_map.mp h)
    exact ⟨v, sig_map.mpr hv, x⟩
  · rw [kdf_n hk] at h1; cases h1
  · rw [kdf_n hk] at h1; cases h1
  · rw [kdf_n hk] at h1; cases h1
theorem ms_n {kd : List Kd} {σ : L2.St} {e : Ev} (hk : ∀ k ∈ kd, k = .n) : ∀ a, Ms (kdf kd) σ e a → False := fun a ⟨i, d, h, _⟩ => by
  rw [kdf_n hk] at h; cases h
theorem call_len {f : Nat} {ds : List D} {d : D} {outs : Ev} (h : pg.callN KK n f ds = .ok d outs) : ∃ d0, pg.defs[f]? = some d0 ∧ ds.length = d0.fi.kd.length := by
  cases n with
  | zero => simp [Pg.callN] at h
  | succ n =>
    unfold Pg.callN at h
    cases hd : pg.defs[f]? with
    | none => rw [hd] at h; simp at h
    | some d0 =>
      rw [hd] at h
      simp only at h
      split at h
      · exact ⟨d0, rfl, by assumption⟩
      · simp at h
/-- a method's call, somewhere at or below the running body -/
theorem own_run (gf : Gf T pg g q KK n X) {C : Nat} {m : Str} {f : Nat} (hm : (pg.meths.getD C []).lookup m = some f) {A : Around} (hr : Room (3 * n) A) (hA : A.frames = X.A.frames) {pins : List (Addr × Obj)} {σ : L2.St} {H : Hp} {s : Shared} (I : Inv X pins σ H s)
    {F : Addr → Prop} {vs : List V} {us : List Value} {ds : List D} {d : D} {outs : Ev} (fd : FD F H) (r : Vals vs us) (rs : Reps g F H vs ds) (hc : pg.callN KK n f ds = .ok d outs) :
    wpAny (model X.prog X.w) A (call (.ref (q.fa f)) us) (fun v s' => ∃ z H2 F2, RelV z v ∧ Inv X pins σ H2 s' ∧ Stp (fun _ => False) F H F2 H2 ∧ Rep g F2 H2 z d) X.xe s := by
  obtain ⟨ow, _, d0, hd, hk⟩ := gf.mt C m f hm
  have FF := gf.ok f d0 hd
  obtain ⟨d1, hd1, hl⟩ := call_len hc
  rw [hd] at hd1
  cases hd1
  have hvl : vs.length = ds.length := rs.length
  have sp : spOf g d0.fi (pg.callN KK n f) vs H (fun v H' => ∃ F2, Stp (fun _ => False) F H F2 H' ∧ Rep g F2 H' v d) E0 := by
    refine ⟨by rw [hvl, hl], F, ds, hvl.symm, env_n hk fd rs, ?_⟩
    rw [hc]
    intro F' H' v e' _ af _ rv
    have st := af.st.weak (M' := fun _ => False) (ms_n hk)
    unfold RV at rv
    split at rv
    · obtain ⟨a, rfl, hn, nf, ro⟩ := rv
      obtain ⟨o, ho, _⟩ := root_mut ro
      exact ⟨fz F' a, stp_fz hn ⟨o, ho⟩ st, (Root.fz ro).rep (.inr rfl)⟩
    · exact ⟨F', st, rv⟩
  have e0 : Env0 X.prog X.w X.K X.mg X.base A X.stack s H := by
    have e := I.env0
    exact ⟨by rw [hA]; exact e.frames, e.mod, e.bs, e.bsz, e.funs, e.frf, e.hok, e.bare⟩
  have hlp := FF.len _ _ _ _ sp
  have hb : BindsTo s (q.fd f) ⟨us, []⟩ ((q.fp f).zip us) := by
    have := ow.bd s us I.kIn (by rw [List.append_nil, ← r.length]; exact hlp)
    rw [List.append_nil] at this
    exact this
  refine wpAny_call (codeAny_mono (FF.run A X.stack s H ⟨us, []⟩ us vs _ E0 hr e0 hb r sp) fun r s' hq => ?_)
  cases r with
  | error e => exact pass0 pins σ H s e s' I hq
  | ok fl =>
    cases fl with
    | ret w =>
      obtain ⟨z, H', I', rz, F2, st, rp⟩ := I.after hq
      exact ⟨z, H', F2, rz, I', st, rp⟩
    | next => exact False.elim hq
    | brk => exact False.elim hq
    | cont => exact False.elim hq
end
end TE
/-! Te23e: own operators: + and *, == and !=, str. -/
namespace TE
open PySem L2
theorem dA : PySem.dunder Operator.Add.info.2 = ("__add__" : Str) := by decide +kernel
theorem dRA : PySem.dunderR Operator.Add.info.2 = ("__radd__" : Str) := by decide +kernel
theorem dM : PySem.dunder Operator.Mult.info.2 = ("__mul__" : Str) := by decide +kernel
theorem dRM : PySem.dunderR Operator.Mult.info.2 = ("__rmul__" : Str) := by decide +kernel
def rOwn2 (g : G) (p : Pr) (w : Ow) : R2 := fun x y H Q => ∃ F d1 d2 d, FD F H ∧ Rep g F H x d1 ∧ Rep g F H y d2 ∧ p.ownD w [d1, d2] = some d ∧ PostV false g F H d Q
theorem ownC_some {p : Pr} {w : Ow} {ds : List D} {d : D} (h : p.ownC w ds = some d) : ∃ f as r outs, ownF p.dun p.sta w ds = some (f, as) ∧ p.call f as = .ok r outs ∧ ownV w r = some d := by
  unfold Pr.ownC at h
  obtain ⟨⟨f, as⟩, h1, h⟩ := Option.bind_eq_some_iff.mp h
  split at h
  · rename_i r outs h2
    exact ⟨f, as, r, outs, h1, h2, h⟩
  · cases h
section
variable {T : Tb} {pg : Pg} {g : G} {q : Q9} {KK n : Nat} {B : Bl} {sc : Scope} {X : Cx} {p : Pr} {mk : Nat → Kd}
theorem rep_ins {pins : List (Addr × Obj)} {σ : L2.St} {H : Hp} {s : Shared} {F : Addr → Prop} {x : V} {C : Nat} {fs : List D} (I : Inv X pins σ H s) (r : Rep g F H x (.obj C fs)) : ∃ a, x = .ref a ∧ ∃ ox od, PySem.W.InstAt s.heap a ox (g.ca C) od ∧ ox.data = .plain := by
  cases r with
  | obj f h1 l r => exact ⟨_, rfl, StX.insC_at I (.inr ⟨_, _, h1⟩)⟩
theorem two_reps {F : Addr → Prop} {H : Hp} {x y : V} {d1 d2 : D} (a : Rep g F H x d1) (b : Rep g F H y d2) : Reps g F H [x, y] [d1, d2] := .cons a (.cons b .nil)
/-- + and *, by the three ways -/
theorem o_own2 (gf : Gf T pg g q KK n X) (hr : Room (3 * n) X.A) {op : Operator} {w : Ow} {dl dr : Str} (e1 : PySem.dunder op.info.2 = dl) (e2 : PySem.dunderR op.info.2 = dr)
    (wC : ∀ (p : Pr) ds, p.ownD w ds = p.ownC w ds) (wV : ∀ d, ownV w d = some d)
    (wF : ∀ dun sta ds r, ownF dun sta w ds = some r → (∃ C fs C' gs f, ds = [.obj C fs, .obj C' gs] ∧ C = C' ∧ dun C dl = some f ∧ r = (f, [.obj C fs, .obj C' gs])) ∨ (∃ C fs i f f', ds = [.obj C fs, .int i] ∧ dun C dr = some f' ∧ dun C dl = some f ∧ r = (f, [.obj C fs, .int i])) ∨ (∃ C fs i f f', ds = [.int i, .obj C fs] ∧ dun C dl = some f' ∧ dun C dr = some f ∧ r = (f, [.obj C fs, .int i])))
    (hfi : PySem.fillsNumberSlot (.type "int") op.info.2 = pure true)
    (h1 : FiF X.K → ∃ fo, PySem.W.findIn X.K (.type "int") dl = some fo) (h2 : FiF X.K → ∃ ro, PySem.W.findIn X.K (.type "int") dr = some ro)
    (decl : ∀ (E : Value → Shared → Prop) (s : Shared) (x : Addr) (ox : Obj) (i : Int) (t : Tok), s.heap.get? x = some ox → ox.data = .plain → wpAny (model X.prog X.w) X.A (tryMethod (.int i t) (PySem.dunder op.info.2) (.ref x)) (fun r s' => r = none ∧ s' = s) E s) :
    OpR X (binaryOp op) (rOwn2 g (pg.prOf (pg.callN KK n)) w) := by
  intro pins s σ H x y v u Q I rx ry h
  obtain ⟨F, d1, d2, d, fd, r1, r2, hd, q⟩ := h
  rw [wC] at hd
  obtain ⟨f, as, r, outs, hF, hc, hv⟩ := ownC_some hd
  rw [wV] at hv
  cases hv
  obtain ⟨m, hF'⟩ := I.fr
  have rv : Vals [x, y] [v, u] := .cons rx (.cons ry .nil)
  have rv' : Vals [y, x] [u, v] := .cons ry (.cons rx .nil)
  have fin : ∀ {w' : Value} {s' : Shared}, (∃ z H2 F2, RelV z w' ∧ Inv X pins σ H2 s' ∧ Stp (fun _ => False) F H F2 H2 ∧ Rep g F2 H2 z d) → PySem.W.CmpBack (EP X pins σ Q) w' s' := fun ⟨z, H2, F2, rz, I2, st, rp⟩ => SlX.cmpback rz ⟨z, H2, I2, rz, q F2 H2 z st (by unfold RV; rw [if_neg (by simp)]; exact rp)⟩
  rcases wF _ _ _ _ hF with ⟨C, fs, C', gs, f0, e, hcc, hf, he⟩ | ⟨C, fs, i, f0, f', e, hf', hf, he⟩ | ⟨C, fs, i, f0, f', e, hf', hf, he⟩
  · cases e; cases he; subst hcc
    obtain ⟨a, rfl, ox, od, J, jp⟩ := rep_ins I r1
    obtain ⟨b, rfl, oy, od', J', _⟩ := rep_ins I r2
    cases rx; cases ry
    obtain ⟨ow, _⟩ := gf.mt C dl f hf
    obtain ⟨oc, fi⟩ := gf.oc C dl f hf
    refine PySem.W.binop_K hF' I.ok.mod.kin J J'.type oc.sf (by rw [e1]; exact ow.at_) ow.fn ?_
    exact wpAny_mono (own_run gf hf hr rfl I fd rv (two_reps r1 r2) hc) (fun _ _ z => fin z) fun _ _ z => z
  · cases e; cases he
    obtain ⟨a, rfl, ox, od, J, jp⟩ := rep_ins I r1
    cases r2
    cases rx
    obtain ⟨t, rfl⟩ := (show ∃ t, u = Value.int i t from ry)
    obtain ⟨ow, _⟩ := gf.mt C dl f hf
    obtain ⟨ow', _⟩ := gf.mt C dr f' hf'
    obtain ⟨oc, fi⟩ := gf.oc C dl f hf
    obtain ⟨fo, k1⟩ := h1 fi
    obtain ⟨ro, k2⟩ := h2 fi
    refine PySem.W.ksp_binT (T := "int") hF' I.ok.mod.kin J rfl oc.sf (by rw [e1]; exact ow.at_) ow.fn (by rw [e2]; exact ow'.at_) (.inr ⟨_, rfl⟩) (by rw [e1]; exact k1) (by rw [e2]; exact k2) rfl ?_
    exact wpAny_mono (own_run gf hf hr rfl I fd rv (two_reps r1 (.int i)) hc) (fun _ _ z => fin z) fun _ _ z => z
  · cases e; cases he
    obtain ⟨a, rfl, ox, od, J, jp⟩ := rep_ins I r2
    cases r1
    cases ry
    obtain ⟨t, rfl⟩ := (show ∃ t, v = Value.int i t from rx)
    obtain ⟨ow, _⟩ := gf.mt C dr f hf
    obtain ⟨ow', _⟩ := gf.mt C dl f' hf'
    obtain ⟨oc, fi⟩ := gf.oc C dr f hf
    refine TK.bin_refl hF' I.ok.mod.kin J oc.sf (by rw [e1]; exact ow'.at_) (by rw [e2]; exact ow.at_) ow.fn hfi oc.hi (decl _ _ _ _ _ _ J.1 jp) ?_
    exact wpAny_mono (own_run gf hf hr rfl I fd rv' (two_reps r2 (.int i)) hc) (fun _ _ z => fin z) fun _ _ z => z
end
end TE
/-! Te23f: own ==, !=, str. -/
namespace TE
open PySem L2
section
variable {T : Tb} {pg : Pg} {g : G} {q : Q9} {KK n : Nat} {B : Bl} {sc : Scope} {X : Cx} {p : Pr} {mk : Nat → Kd}
theorem ownF_eq {dun sta : Nat → Str → Option Nat} {w : Ow} (hw : w = .eq ∨ w = .ne) {ds : List D} {r : Nat × List D} (h : ownF dun sta w ds = some r) : ∃ C fs gs f, ds = [.obj C fs, .obj C gs] ∧ dun C "__eq__" = some f ∧ r = (f, [.obj C fs, .obj C gs]) := by
  rcases hw with rfl | rfl
  all_goals
    unfold ownF at h
    split at h <;> first | contradiction | skip
    all_goals first | (cases ‹Ow.eq = _›; done) | (cases ‹Ow.ne = _›; done) | skip
    all_goals
      split at h <;> first | contradiction | skip
      rename_i hc
      subst hc
      obtain ⟨f, hf, rfl⟩ := Option.map_eq_some_iff.mp h
      exact ⟨_, _, _, f, rfl, hf, rfl⟩
theorem ownV_eq {r d : D} (h : ownV .eq r = some d) : ∃ b, r = .bl b ∧ d = .bl b := by
  cases r with
  | bl b => exact ⟨b, rfl, (Option.some.inj h).symm⟩
  | _ => exact absurd h (by simp [ownV])
theorem ownV_ne {r d : D} (h : ownV .ne r = some d) : ∃ b, r = .bl b ∧ d = .bl (!b) := by
  cases r with
  | bl b => exact ⟨b, rfl, (Option.some.inj h).symm⟩
  | _ => exact absurd h (by simp [ownV])
theorem ownV_str {r d : D} (h : ownV .str r = some d) : ∃ b, r = .str b ∧ d = .str b := by
  cases r with
  | str b => exact ⟨b, rfl, (Option.some.inj h).symm⟩
  | _ => exact absurd h (by simp [ownV])
theorem o_ownE (gf : Gf T pg g q KK n X) (hr : Room (3 * n) X.A) : OpR X (compareOp .Eq) (rOwn2 g (pg.prOf (pg.callN KK n)) .eq) := by
  intro pins s σ H x y v u Q I rx ry h
  obtain ⟨F, d1, d2, d, fd, r1, r2, hd, qq⟩ := h
  obtain ⟨f, as, r, outs, hF, hc, hv⟩ := ownC_some (show (pg.prOf (pg.callN KK n)).ownC .eq [d1, d2] = some d from hd)
  obtain ⟨C, fs, gs, f0, e, hf, he⟩ := ownF_eq (.inl rfl) hF
  cases e; cases he
  obtain ⟨m, hF'⟩ := I.fr
  have rv : Vals [x, y] [v, u] := .cons rx (.cons ry .nil)
  obtain ⟨a, rfl, ox, od, J, jp⟩ := rep_ins I r1
  obtain ⟨b, rfl, oy, od', J', _⟩ := rep_ins I r2
  cases rx; cases ry
  obtain ⟨ow, _⟩ := gf.mt C "__eq__" f hf
  refine PySem.W.cmp_K (op := .Eq) (tb := .ref (g.ca C)) hr.units0 hF' I.ok.mod.kin J J'.type (by simp [PySem.W.notFirst]) ow.at_ ow.fn ?_
  refine wpAny_mono (own_run gf hf hr rfl I fd rv (two_reps r1 r2) hc) (fun w' s' z => ?_) fun _ _ z => z
  obtain ⟨z, H2, F2, rz, I2, st, rp⟩ := z
  obtain ⟨c, rfl, rfl⟩ := ownV_eq hv
  exact SlX.cmpback rz ⟨z, H2, I2, rz, qq F2 H2 z st (by unfold RV; rw [if_neg (by simp)]; exact rp)⟩
theorem o_ownN (gf : Gf T pg g q KK n X) (hr : Room (3 * n + 2) X.A) (hu : X.A.units + 1 < cLine) : OpR X (compareOp .NotEq) (rOwn2 g (pg.prOf (pg.callN KK n)) .ne) := by
  intro pins s σ H x y v u Q I rx ry h
  obtain ⟨F, d1, d2, d, fd, r1, r2, hd, qq⟩ := h
  obtain ⟨f, as, r, outs, hF, hc, hv⟩ := ownC_some (show (pg.prOf (pg.callN KK n)).ownC .ne [d1, d2] = some d from hd)
  obtain ⟨C, fs, gs, f0, e, hf, he⟩ := ownF_eq (.inr rfl) hF
  cases e; cases he
  obtain ⟨m, hF'⟩ := I.fr
  have rv : Vals [x, y] [v, u] := .cons rx (.cons ry .nil)
  obtain ⟨a, rfl, ox, od, J, jp⟩ := rep_ins I r1
  obtain ⟨b, rfl, oy, od', J', _⟩ := rep_ins I r2
  cases rx; cases ry
  obtain ⟨ow, _⟩ := gf.mt C "__eq__" f hf
  obtain ⟨oc, _⟩ := gf.oc C "__eq__" f hf
  refine TK.ne_own hu hF' I.ok.mod.kin J J' oc.ho oc.ne ow.at_ ow.fn ?_
  refine wpAny_mono (own_run gf hf ((Room.in1 (hr.mono (by omega : 3 * n + 1 ≤ 3 * n + 2)))) rfl I fd rv (two_reps r1 r2) hc) (fun w' s' z => ?_) fun _ _ z => z
  obtain ⟨z, H2, F2, rz, I2, st, rp⟩ := z
  obtain ⟨c, rfl, rfl⟩ := ownV_ne hv
  cases rp
  cases rz
  exact ⟨c, rfl, .bl (!c), H2, I2, rfl, qq F2 H2 _ st (by unfold RV; rw [if_neg (by simp)]; exact .bl _)⟩
/-- str(x) -/
theorem c_ownS (gf : Gf T pg g q KK n X) (hr : Room (3 * n + 2) X.A) : CallR X (.type "str") (fun xs H Q => ∃ F ds d, FD F H ∧ Reps g F H xs ds ∧ (pg.prOf (pg.callN KK n)).ownD .str ds = some d ∧ PostV false g F H d Q) := by
  intro pins s σ H xs us Q I rv h
  obtain ⟨F, ds, d, fd, rs, hd, qq⟩ := h
  obtain ⟨f, as, r, outs, hF, hc, hv⟩ := ownC_some (show (pg.prOf (pg.callN KK n)).ownC .str ds = some d from hd)
  have : ∃ C fs, ds = [.obj C fs] ∧ (pg.meths.getD C []).lookup ("__str__" : Str) = some f ∧ as = [.obj C fs] := by
    unfold ownF at hF
    split at hF <;> first | contradiction | skip
    all_goals first | (cases ‹Ow.str = _›; done) | skip
    obtain ⟨f', hf, he⟩ := Option.map_eq_some_iff.mp hF
    cases he
    exact ⟨_, _, rfl, hf, rfl⟩
  obtain ⟨C, fs, rfl, hf, rfl⟩ := this
  have rs' := rs
  cases rs with
  | cons r1 r0 =>
    cases r0
    obtain ⟨a, rfl, ox, od, J, jp⟩ := rep_ins I r1
    obtain ⟨u, rfl, ru⟩ := rv.one
    cases ru
    obtain ⟨ow, _⟩ := gf.mt C "__str__" f hf
    have hr1 : Room (3 * n + 1) X.A.in1 := hr.in1
    have hr2 : Room (3 * n) X.A.in1.in1 := hr1.in1
    refine PySem.W.kso_call hr2.units0 I.kIn J ow.at_ ow.fn ?_
    refine wpAny_mono (own_run gf hf hr2 rfl I fd rv rs' hc) (fun w' s' z => ?_) fun _ _ z => z
    obtain ⟨z, H2, F2, rz, I2, st, rp⟩ := z
    obtain ⟨c, rfl, rfl⟩ := ownV_str hv
    cases rp
    obtain ⟨t, rfl⟩ := (show ∃ t, w' = Value.str _ t from rz)
    exact ⟨.str (tx c), H2, I2, ⟨t, rfl⟩, qq F2 H2 _ st (by unfold RV; rw [if_neg (by simp)]; exact .str _)⟩
/-! ### == of two lists of instances, True -/
def DOwn (pg : Pg) (g : G) (KK n : Nat) : Eqv := fun x y H => ∃ F C fs gs f outs, FD F H ∧ Rep g F H x (.obj C fs) ∧ Rep g F H y (.obj C gs) ∧ (pg.meths.getD C []).lookup ("__eq__" : Str) = some f ∧ pg.callN KK n f [.obj C fs, .obj C gs] = .ok (.bl true) outs
theorem ext_rep {F : Addr → Prop} {H H' : Hp} {v : V} {d : D} (e : Ext H H') (r : Rep g F H v d) : Rep g F H' v d := r.mono (M := fun _ => False) (fun _ h => h.elim) (fun _ h => h) fun a o h _ => e a o h
theorem mon_own : Mon (DOwn pg g KK n) := fun x y H H' e ⟨F, C, fs, gs, f, outs, fd, r1, r2, h1, h2⟩ => ⟨F, C, fs, gs, f, outs, fun a ha => by
  obtain ⟨o, ho⟩ := fd a ha
  exact ⟨o, e a o ho⟩, ext_rep e r1, ext_rep e r2, h1, h2⟩
theorem eqG_own (gf : Gf T pg g q KK n X) : EqG X (3 * n) (DOwn pg g KK n) := by
  refine RcG.eqG ?_ fun x y H d => ?_
  · intro A pins s σ H x y u v sb I rx ry d
    obtain ⟨F, C, fs, gs, f, outs, fd, r1, r2, hf, hc⟩ := d
    obtain ⟨m, hF'⟩ := I.fr
    have rv : Vals [x, y] [u, v] := .cons rx (.cons ry .nil)
    obtain ⟨a, rfl, ox, od, J, jp⟩ := rep_ins I r1
    obtain ⟨b, rfl, oy, od', J', _⟩ := rep_ins I r2
    cases rx; cases ry
    obtain ⟨ow, _⟩ := gf.mt C "__eq__" f hf
    refine PySem.W.cmp_K (op := .Eq) (tb := .ref (g.ca C)) sb.room.units0 hF' I.ok.mod.kin J J'.type (by simp [PySem.W.notFirst]) ow.at_ ow.fn ?_
    refine wpAny_mono (own_run gf hf sb.room sb.fr I fd rv (two_reps r1 r2) hc) (fun w' s' z => ?_) fun _ _ z => z
    obtain ⟨z, H2, F2, rz, I2, st, rp⟩ := z
    cases rp
    cases rz
    exact ⟨rfl, H2, I2, fun a o h => st.kp a o h fun z => z⟩
  · obtain ⟨F, C, fs, gs, f, outs, fd, r1, r2, hf, hc⟩ := d
    cases r1; cases r2
    exact ⟨_, _, rfl, rfl⟩
theorem eqs_prs {F : Addr → Prop} {H : Hp} (fd : FD F H) : ∀ {ds es : List D} {xs ys : List V}, (pg.prOf (pg.callN KK n)).eqs ds es = true → Reps g F H xs ds → Reps g F H ys es → Prs (DOwn pg g KK n) xs ys H
  | [], [], _, _, _, r1, r2 => by cases r1; cases r2; exact .nil
  | [], _ :: _, _, _, h, _, _ => by simp [Pr.eqs] at h
  | d :: ds, [], _, _, h, _, _ => by cases d <;> simp [Pr.eqs] at h
  | d :: ds, e :: es, _, _, h, r1, r2 => by
    cases d <;> cases e <;> first | (simp [Pr.eqs] at h; done) | skip
    rename_i C fs C' gs
    simp only [Pr.eqs, Bool.and_eq_true, beq_iff_eq] at h
    obtain ⟨⟨rfl, h1⟩, h2⟩ := h
    cases r1 with
    | cons a1 b1 =>
      cases r2 with
      | cons a2 b2 =>
        refine .cons ?_ (eqs_prs fd h2 b1 b2)
        split at h1
        · rename_i f hf
          split at h1
          · rename_i outs hc
            exact ⟨F, _, fs, gs, f, outs, fd, a1, a2, hf, hc⟩
          · cases h1
        · cases h1
theorem o_ownL (gf : Gf T pg g q KK n X) (hr : Room (3 * n + 2) X.A) : OpR X (compareOp .Eq) (rOwn2 g (pg.prOf (pg.callN KK n)) .eqL) := by
  intro pins s σ H x y v u Q I rx ry h
  obtain ⟨F, d1, d2, d, fd, r1, r2, hd, qq⟩ := h
  cases d1 <;> cases d2 <;> first | (simp [Pr.ownD] at hd; done) | skip
  rename_i ds es
  simp only [Pr.ownD] at hd
  obtain ⟨he, rfl⟩ := ite_some hd
  cases r1 with
  | lst f1 h1 a1 =>
    cases r2 with
    | lst f2 h2 a2 =>
      refine op_eqG (rcG_list mon_own (eqG_own gf)) (hr.mono (by omega)) pins s σ H _ _ v u Q I rx ry ⟨⟨_, _, _, _, rfl, rfl, h1, h2, eqs_prs fd he a1 a2⟩, fun H' e => ?_⟩
      exact qq F H' _ ⟨fun _ h => h, fun _ h => .inl h, fun a o h _ => e a o h, fun a o h => ⟨o, e a o h⟩, fun a ha => by
        obtain ⟨o, ho⟩ := fd a ha
        exact ⟨o, e a o ho⟩⟩ (by unfold RV; rw [if_neg (by simp)]; exact .bl _)
end
end TE
/-! Te23h: a static method with a star parameter. -/
namespace TE
open PySem L2
section
variable {T : Tb} {pg : Pg} {g : G} {q : Q9} {KK n : Nat} {B : Bl} {sc : Scope} {X : Cx} {p : Pr} {mk : Nat → Kd}
theorem getm_stat {C fa : Addr} {m : Str} {pins : List (Addr × Obj)} {σ : L2.St} {H : Hp} {s : Shared} {pl : Sem Bool} {E : Value → Shared → Prop} {Q : Value × List Value → Shared → Prop} (I : Inv X pins σ H s) (c : StF X.K C m fa) (h : ∀ s', Inv X pins σ H s' → Q (.ref fa, []) s') : wpAny (model X.prog X.w) X.A (getMethod (.ref C) m pl) Q E s := by
  obtain ⟨p, rest, h1, h2⟩ := c.sm
  obtain ⟨m', hF⟩ := I.fr
  exact PySem.W.method_of_cls hF I.ok.mod.kin c.ga (PySem.W.cls_sm hF I.ok.mod.kin c.ty c.rd h1 h2 rfl (h _ (I.tok _)))
theorem pe_stat {o e : Expr} {es : List Expr} {m : Str} {pos apos : Pos} {ta : L2.TE} {t : TA} {C fa : Addr} {k : Nat} {sp : Sp} {pl : Sem Bool} (he : PE X o ta) (c : StF X.K C m fa) (F : FnR X.prog X.w X.K X.mg X.base CX0 k fa sp) (hr : Room k X.A) (ha : PA X (e :: es) t)
    (hst : starEach (e :: es) X.env = (false, eval e X.env) :: starEach es X.env) (hpl : (backTo pos (starEach es X.env)).any (·.1) = false)
    (ht : eval (.Call (.Attribute o m apos) (e :: es) [] pos) X.env = (do
      let ov ← eval o X.env
      standAt apos.atName
      let (f, first) ← holding [ov] (getMethod ov m pl)
      callWith pos f first (backTo pos (starEach (e :: es) X.env)) (backToKw pos (keywordEach [] X.env))) := by rfl) :
    PE X (.Call (.Attribute o m apos) (e :: es) [] pos) (fun σ H Q => ta σ H fun x H1 => x = .ref C ∧ t σ H1 fun vs H2 => sp vs H2 Q E0) := by
  refine ⟨fun pins s σ H Q I h => ?_⟩
  refine PySem.W.methodCall_KW (pl := pl) (thn (he.run pins s σ H _ I h) fun u s1 ⟨x, H1, I1, rx, ex, q⟩ => ?_) ht
  subst ex
  obtain rfl : u = Value.ref C := rx
  refine getm_stat I1 c fun s2 I2 => ?_
  refine PySem.W.callWith_K (h₀ := X.base) I2.ok.mod.kin c.kp (thn (ha.run pos pins s2 σ H1 _ I2 q) fun us s3 ⟨vs, H2, I3, r, q3⟩ => ⟨I3.kIn, ?_⟩) hst hpl
  exact wpAny_call (run_fnR F hr pass0 I3 r q3)
theorem pe_stat0 {o : Expr} {m : Str} {pos apos : Pos} {ta : L2.TE} {C fa : Addr} {k : Nat} {sp : Sp} {pl : Sem Bool} (he : PE X o ta) (c : StF X.K C m fa) (F : FnR X.prog X.w X.K X.mg X.base CX0 k fa sp) (hr : Room k X.A)
    (ht : eval (.Call (.Attribute o m apos) [] [] pos) X.env = (do
      let ov ← eval o X.env
      standAt apos.atName
      let (f, first) ← holding [ov] (getMethod ov m pl)
      callWith pos f first (backTo pos (starEach [] X.env)) (backToKw pos (keywordEach [] X.env))) := by rfl) :
    PE X (.Call (.Attribute o m apos) [] [] pos) (fun σ H Q => ta σ H fun x H1 => x = .ref C ∧ sp [] H1 Q E0) := by
  refine ⟨fun pins s σ H Q I h => ?_⟩
  refine PySem.W.methodCall_KW (pl := pl) (thn (he.run pins s σ H _ I h) fun u s1 ⟨x, H1, I1, rx, ex, q⟩ => ?_) ht
  subst ex
  obtain rfl : u = Value.ref C := rx
  refine getm_stat I1 c fun s2 I2 => ?_
  exact PySem.W.callWith_K0 I2.kIn c.kp (wpAny_call (run_fnR (us := []) (vs := []) F hr pass0 I2 .nil q))
theorem ownF_stat {dun sta : Nat → Str → Option Nat} {C : Nat} {m : Str} (ds : List D) : ownF dun sta (.stat C m) ds = if small ds.length then (sta C m).map fun f => (f, [.tup ds]) else none := by
  rcases ds with _ | ⟨a, _ | ⟨b, _ | ⟨c, ds⟩⟩⟩ <;> first | rfl | (cases a <;> rfl) | (cases a <;> cases b <;> rfl)
theorem call_form {o : Expr} {m : Str} {apos pos : Pos} {es : List Expr} {env : Env} (hn : nosup o = true) (hl : (apos.endLine == pos.line) = true) (hf : methodCallForm (es.length + 0) (backTo pos (starEach es env)) (backToKw pos (keywordEach [] env)) = true) :
    eval (.Call (.Attribute o m apos) es [] pos) env = (do
      let ov ← eval o env
      standAt apos.atName
      let (f, first) ← holding [ov] (calleeOf true o env ov m)
      callWith pos f first (backTo pos (starEach es env)) (backToKw pos (keywordEach [] env))) := by
  have hpos : methodCallPos true o env apos pos = pure pos := by unfold methodCallPos; simp [hl]
  rw [PySem.arm_eval_Call, sup_of hn]
  unfold methodCall
  rw [show methodCallForm (es.length + ([] : List Keyword).length) (backTo pos (starEach es env)) (backToKw pos (keywordEach [] env)) = true from hf, hpos]
  rfl
/-- what the static method's def wants, from the operands -/
theorem stat_sp {C : Nat} {m : Str} {f : Nat} {d0 : Df} {F : Addr → Prop} {vs : List V} {ds : List D} {d : D} {H : Hp} {Q : VK} (hl : (pg.stats.getD C []).lookup m = some f) (hk : ∀ k ∈ d0.fi.kd, k = .n) (hd : pg.defs[f]? = some d0) (fd : FD F H) (r : Reps g F H vs ds) (h : (pg.prOf (pg.callN KK n)).ownD (.stat C m) ds = some d) (k : PostV false g F H d Q) :
    spSt g d0.fi (pg.callN KK n f) vs H Q E0 := by
  obtain ⟨f', as, rr, outs, hF, hc, hv⟩ := ownC_some (show (pg.prOf (pg.callN KK n)).ownC (.stat C m) ds = some d from h)
  have hz : small ds.length = true ∧ f' = f ∧ as = [.tup ds] := by
    rw [ownF_stat] at hF
    split at hF <;> first | contradiction | skip
    rename_i h1
    have h2 : ((pg.stats.getD C []).lookup m).map (fun f => (f, [D.tup ds])) = some (f', as) := hF
    rw [hl] at h2
    cases h2
    exact ⟨h1, rfl, rfl⟩
  obtain ⟨hz, rfl, rfl⟩ := hz
  cases hv
  obtain ⟨d1, hd1, hlen⟩ := call_len hc
  rw [hd] at hd1
  cases hd1
  refine ⟨by rw [r.length]; exact small_line hz, fun a ha => ?_⟩
  have st := stp_new (o := HO.tup vs) fd ha
  have rt : Rep g F (upd H a (.tup vs)) (.ref a) (.tup ds) := .tup (.inl (.inl upd_same)) (r.stp mok0 st)
  refine ⟨by rw [← hlen]; rfl, F, [.tup ds], rfl, env_n hk st.fd (.cons rt .nil), ?_⟩
  rw [show pg.callN KK n f' [.tup ds] = .ok d outs from hc]
  intro F' H' v e' _ af _ rv
  have st2 := st.trans (af.st.weak (M' := fun _ => False) (ms_n hk)) fun _ z => z
  unfold RV at rv
  split at rv
  · obtain ⟨b, rfl, hn, nf, ro⟩ := rv
    obtain ⟨o, ho, _⟩ := root_mut ro
    exact k _ H' _ (stp_fz (st.fresh hn) ⟨o, ho⟩ st2) (by unfold RV; rw [if_neg (by simp)]; exact (Root.fz ro).rep (.inr rfl))
  · exact k F' H' v st2 (by unfold RV; rw [if_neg (by simp)]; exact rv)
theorem l_stat (X0 : XO T pg g q KK n B sc X) {C : Nat} {m x : Str} {cs : List E} {es : List Expr} {px apos pos : Pos} (hli : (apos.endLine == pos.line) = true) (hz : es.length < 20) (hg : isG sc x = true) (ho : okN x = true) (hx : T.cls.lookup x = some C) {f : Nat} (hl : (pg.stats.getD C []).lookup m = some f) (ops : Ops X g mk (pg.prOf (pg.callN KK n)) cs es) (nk : NK mk cs) :
    PE X (.Call (.Attribute (.Name x px) m apos) es [] pos) (rdE false g mk (evE (pg.prOf (pg.callN KK n)) (.own (.stat C m) cs))) := by
  obtain ⟨c, d0, hd, hk, F⟩ := X0.gf.sr C m f hl
  have pn : PE X (.Name x px) _ := pe_glob (gl_of X0 hg) (X0.gf.cn x C hx) (v := .ref (g.ca C)) rfl (okN_of ho).1
  cases ops with
  | nil =>
    refine PE.weak (pe_stat0 (pl := do return (← importBound (.Name x px) X.env).getD true) pn c F (X0.room.mono (by omega)) (call_form rfl hli rfl)) fun σ H Q hq => ?_
    · have h := own_plain (cs := []) nk hq
      obtain ⟨F, ds, d, fd, r, e, k⟩ := (show _ from h)
      exact ⟨rfl, stat_sp hl hk hd fd r e k⟩
  | cons h1 hn o =>
    have ops' := Ops.cons h1 hn o
    rename_i c0 e0 cs0 es0
    have hf : methodCallForm ((e0 :: es0).length + 0) (backTo pos (starEach (e0 :: es0) X.env)) (backToKw pos (keywordEach [] X.env)) = true := by
      unfold methodCallForm
      rw [ops'.all pos]
      have : (e0 :: es0).length + 0 + (if (backToKw pos (keywordEach [] X.env)).isEmpty then 0 else 1) < 30 := by
        show (e0 :: es0).length + 0 + 0 < 30
        omega
      rw [decide_eq_true this]; rfl
    refine PE.weak (pe_stat (pl := do return (← importBound (.Name x px) X.env).getD true) pn c F (X0.room.mono (by omega)) ops'.pa (star_ns hn _ _) (o.plain pos) (call_form rfl hli hf)) fun σ H Q hq => ?_
    · exact ⟨rfl, rdOs_mono (own_plain nk hq) fun vs H1 ⟨F, ds, d, fd, r, e, k⟩ => stat_sp hl hk hd fd r e k⟩
end
end TE
/-! Te23g: own operators, the check. -/
namespace TE
open PySem L2
section
variable {T : Tb} {pg : Pg} {g : G} {q : Q9} {KK n : Nat} {B : Bl} {sc : Scope} {X : Cx} {p : Pr} {mk : Nat → Kd}
theorem own_two {w : Ow} {a b : E} {fr : Bool} {σ : L2.St} {H : Hp} {Q : VK} (nk : NK mk [a, b]) (h : rdE fr g mk (evE p (.own w [a, b])) σ H Q) (hf : fr = false) : rdO g mk p a σ H fun x H1 => rdO g mk p b σ H1 fun y H2 => rOwn2 g p w x y H2 Q := by
  subst hf
  have h3 : rdO g mk p a σ H fun x H1 => rdO g mk p b σ H1 fun y H2 => ∃ F ds d, FD F H2 ∧ Reps g F H2 [x, y] ds ∧ p.ownD w ds = some d ∧ PostV false g F H2 d Q := own_plain nk h
  refine rdO_mono h3 fun x H1 h4 => rdO_mono h4 fun y H2 h5 => ?_
  obtain ⟨F, ds, d, fd, r, e, k⟩ := h5
  cases r with
  | cons r1 r => cases r with
    | cons r2 r =>
      cases r
      exact ⟨F, _, _, d, fd, r1, r2, e, k⟩
theorem l_ownB {w : Ow} {op : Operator} {cs : List E} {l r : Expr} {pos : Pos} (ops : Ops X g mk p cs [l, r]) (nk : NK mk cs) (h : OpR X (binaryOp op) (rOwn2 g p w)) : PE X (.BinOp l op r pos) (rdE false g mk (evE p (.own w cs))) := by
  obtain ⟨a, b, rfl, h1, h2⟩ := ops.two
  exact PE.weak (pe_op h h1 h2) fun σ H Q hq => own_two nk hq rfl
theorem l_ownC {w : Ow} {op : CmpOp} {cs : List E} {l r : Expr} {pos : Pos} (ops : Ops X g mk p cs [l, r]) (nk : NK mk cs) (h : OpR X (compareOp op) (rOwn2 g p w)) (hm : behindInMarks op r = false) : PE X (.Compare l [op] [r] pos) (rdE false g mk (evE p (.own w cs))) := by
  obtain ⟨a, b, rfl, h1, h2⟩ := ops.two
  exact PE.weak (pe_cmpR h h1 h2 hm) fun σ H Q hq => own_two nk hq rfl
theorem l_ownT {w : Ow} {op : CmpOp} {cs : List E} {l r : Expr} {pos : Pos} (ops : Ops X g mk p cs [l, r]) (nk : NK mk cs) (h : OpR X (compareOp op) (rOwn2 g p w)) (hm : behindInMarks op r = false) (hb : ∀ ds d, p.ownD w ds = some d → ∃ c, d = .bl c) : PT X (.Compare l [op] [r] pos) (rdT g mk (evT p (.own w cs))) := by
  obtain ⟨a, b, rfl, h1, h2⟩ := ops.two
  refine PT.weak (pt_cmpR h h1 h2 hm) fun σ H Q hq => ?_
  have hq' : rdE false g mk (evE p (.own w [a, b])) σ H fun x H' => ∃ k, x = .bl k ∧ Q k H' := by
    obtain ⟨F, e, en, hq⟩ := hq
    refine ⟨F, e, en, ?_⟩
    have ht : evT p (.own w [a, b]) e = (evE p (.own w [a, b]) e).bind fun d e1 => .ofO (truth d) e1 := by simp only [evT]
    rw [ht] at hq
    cases h0 : evE p (.own w [a, b]) e with
    | err x e1 => rw [h0] at hq; exact hq.elim
    | bad => rw [h0] at hq; exact hq.elim
    | ok d e1 =>
      have hd : ∃ c, d = .bl c := by
        simp only [evE] at h0
        obtain ⟨ds, e2, _, h0⟩ := bind_ok h0
        split at h0
        · obtain ⟨h0, _⟩ := ofO_ok h0
          exact hb _ _ h0
        · cases h0
      obtain ⟨c, rfl⟩ := hd
      rw [h0] at hq
      intro F' H' v af r
      have hv : v = .bl c := by
        unfold RV at r
        rw [if_neg (by simp)] at r
        cases r; rfl
      exact ⟨c, hv, hq F' H' af⟩
  exact own_two nk hq' rfl
theorem own_bl {w : Ow} (hw : w = .eq ∨ w = .ne ∨ w = .eqL) : ∀ ds d, p.ownD w ds = some d → ∃ c, d = .bl c := fun ds d h => by
  rcases hw with rfl | rfl | rfl
  · obtain ⟨f, as, r, outs, _, _, hv⟩ := ownC_some (show p.ownC .eq ds = some d from h)
    obtain ⟨b, _, e⟩ := ownV_eq hv
    exact ⟨b, e⟩
  · obtain ⟨f, as, r, outs, _, _, hv⟩ := ownC_some (show p.ownC .ne ds = some d from h)
    obtain ⟨b, _, e⟩ := ownV_ne hv
    exact ⟨_, e⟩
  · unfold Pr.ownD at h
    split at h
    · obtain ⟨_, rfl⟩ := ite_some h
      exact ⟨_, rfl⟩
    all_goals first | (cases h; done) | simp_all
theorem ownF_add {dun sta : Nat → Str → Option Nat} {ds : List D} {r : Nat × List D} (h : ownF dun sta .add ds = some r) : (∃ C fs C' gs f, ds = [.obj C fs, .obj C' gs] ∧ C = C' ∧ dun C "__add__" = some f ∧ r = (f, [.obj C fs, .obj C' gs])) ∨ (∃ C fs i f f', ds = [.obj C fs, .int i] ∧ dun C "__radd__" = some f' ∧ dun C "__add__" = some f ∧ r = (f, [.obj C fs, .int i])) ∨ (∃ C fs i f f', ds = [.int i, .obj C fs] ∧ dun C "__add__" = some f' ∧ dun C "__radd__" = some f ∧ r = (f, [.obj C fs, .int i])) := by
  unfold ownF at h
  split at h <;> first | contradiction | skip
  all_goals first | (cases ‹Ow.add = _›; done) | skip
  · split at h <;> first | contradiction | skip
    rename_i hc
    obtain ⟨f, hf, rfl⟩ := Option.map_eq_some_iff.mp h
    exact .inl ⟨_, _, _, _, f, rfl, hc, hf, rfl⟩
  · obtain ⟨f', hf', h⟩ := Option.bind_eq_some_iff.mp h
    obtain ⟨f, hf, rfl⟩ := Option.map_eq_some_iff.mp h
    exact .inr (.inl ⟨_, _, _, f, f', rfl, hf', hf, rfl⟩)
  · obtain ⟨f', hf', h⟩ := Option.bind_eq_some_iff.mp h
    obtain ⟨f, hf, rfl⟩ := Option.map_eq_some_iff.mp h
    exact .inr (.inr ⟨_, _, _, f, f', rfl, hf', hf, rfl⟩)
theorem ownF_mul {dun sta : Nat → Str → Option Nat} {ds : List D} {r : Nat × List D} (h : ownF dun sta .mul ds = some r) : (∃ C fs C' gs f, ds = [.obj C fs, .obj C' gs] ∧ C = C' ∧ dun C "__mul__" = some f ∧ r = (f, [.obj C fs, .obj C' gs])) ∨ (∃ C fs i f f', ds = [.obj C fs, .int i] ∧ dun C "__rmul__" = some f' ∧ dun C "__mul__" = some f ∧ r = (f, [.obj C fs, .int i])) ∨ (∃ C fs i f f', ds = [.int i, .obj C fs] ∧ dun C "__mul__" = some f' ∧ dun C "__rmul__" = some f ∧ r = (f, [.obj C fs, .int i])) := by
  unfold ownF at h
  split at h <;> first | contradiction | skip
  all_goals first | (cases ‹Ow.mul = _›; done) | skip
  · split at h <;> first | contradiction | skip
    rename_i hc
    obtain ⟨f, hf, rfl⟩ := Option.map_eq_some_iff.mp h
    exact .inl ⟨_, _, _, _, f, rfl, hc, hf, rfl⟩
  · obtain ⟨f', hf', h⟩ := Option.bind_eq_some_iff.mp h
    obtain ⟨f, hf, rfl⟩ := Option.map_eq_some_iff.mp h
    exact .inr (.inl ⟨_, _, _, f, f', rfl, hf', hf, rfl⟩)
  · obtain ⟨f', hf', h⟩ := Option.bind_eq_some_iff.mp h
    obtain ⟨f, hf, rfl⟩ := Option.map_eq_some_iff.mp h
    exact .inr (.inr ⟨_, _, _, f, f', rfl, hf', hf, rfl⟩)
theorem l_own (X0 : XO T pg g q KK n B sc X) {w : Ow} {cs : List E} {x : Expr} (hs : ownS T sc w x = true) (ops : Ops X g mk (pg.prOf (pg.callN KK n)) cs (ownO x)) (nk : NK mk cs) : PE X x (rdE false g mk (evE (pg.prOf (pg.callN KK n)) (.own w cs))) ∧ PT X x (rdT g mk (evT (pg.prOf (pg.callN KK n)) (.own w cs))) ∧ isBoolE x = false := by
  have gf := X0.gf
  have hr := X0.room
  have hr0 : Room (3 * n) X.A := hr.mono (by omega)
  have hu := hu64 X0
  have pl : PE X x (rdE false g mk (evE (pg.prOf (pg.callN KK n)) (.own w cs))) → (∀ whole, isTrue x X.env whole = (do let v ← whole; standAt x.pos; holding [v] (truthy v))) → isBoolE x = false → PE X x (rdE false g mk (evE (pg.prOf (pg.callN KK n)) (.own w cs))) ∧ PT X x (rdT g mk (evT (pg.prOf (pg.callN KK n)) (.own w cs))) ∧ isBoolE x = false := fun h he hb => ⟨h, t_plain X0 h he (fun _ => by simp only [evT]), hb⟩
  unfold ownS at hs
  split at hs <;> first | (cases hs; done) | skip
  · exact pl (l_ownB ops nk (o_own2 gf hr0 dA dRA (fun _ _ => rfl) (fun _ => rfl) (fun _ _ _ _ h => ownF_add h) PySem.F.fills_int_add (fun fi => ⟨_, fi.a1⟩) (fun fi => ⟨_, fi.a2⟩) fun _ _ _ _ _ _ h1 h2 => TK.decl_add h1 h2)) (fun _ => rfl) rfl
  · exact pl (l_ownB ops nk (o_own2 gf hr0 dM dRM (fun _ _ => rfl) (fun _ => rfl) (fun _ _ _ _ h => ownF_mul h) PySem.F.fills_int_mul (fun fi => ⟨_, fi.m1⟩) (fun fi => ⟨_, fi.m2⟩) fun _ _ _ _ _ _ h1 h2 => TK.decl_mul h1 h2)) (fun _ => rfl) rfl
  · have hm := (Bool.not_eq_true' _).mp hs
    exact ⟨l_ownC ops nk (o_ownE gf hr0) hm, l_ownT ops nk (o_ownE gf hr0) hm (own_bl (.inl rfl)), rfl⟩
  · have hm := (Bool.not_eq_true' _).mp hs
    exact ⟨l_ownC ops nk (o_ownL gf hr) hm, l_ownT ops nk (o_ownL gf hr) hm (own_bl (.inr (.inr rfl))), rfl⟩
  · have hm := (Bool.not_eq_true' _).mp hs
    exact ⟨l_ownC ops nk (o_ownN gf hr (by omega)) hm, l_ownT ops nk (o_ownN gf hr (by omega)) hm (own_bl (.inr (.inl rfl))), rfl⟩
  · simp only [Bool.and_eq_true, beq_iff_eq] at hs
    obtain ⟨rfl, hx⟩ := hs
    obtain ⟨h1, h2, h3, h4⟩ := gname_of X0 hx
    refine pl ?_ (fun _ => rfl) rfl
    rename_i px e pos
    have hs : starEach [e] X.env = (false, eval e X.env) :: starEach [] X.env := by cases ops with | cons _ hn _ => exact star_ns hn _ _
    exact PE.weak (pe_callTy (c_ownS gf hr) h1 h2 rfl ops.pa h3 h4 hs rfl) fun σ H Q hq => own_plain nk hq
  · rename_i C m y px m' apos es pos
    simp only [Bool.and_eq_true, beq_iff_eq] at hs
    obtain ⟨⟨⟨⟨⟨rfl, hli⟩, hz⟩, h1⟩, h2⟩, h3⟩ := hs
    have hx : T.cls.lookup y = some C := by
      split at h3
      · rename_i C' hc
        rw [hc, beq_iff_eq.mp h3]
      · cases h3
    refine pl ?_ (fun _ => rfl) rfl
    cases hl : (pg.stats.getD C []).lookup m with
    | some f => exact l_stat X0 (by simpa using hli) (of_decide_eq_true hz) h1 h2 hx hl ops nk
    | none =>
      refine PE.no fun σ H Q hq => ?_
      obtain ⟨F, e, en, h⟩ := hq
      simp only [evE] at h
      rcases R_cases (evEs (pg.prOf (pg.callN KK n)) cs e) with ⟨ds, e1, he⟩ | ⟨_, e1, he⟩ | he <;> rw [he] at h <;> simp only [R.bind] at h
      all_goals first | exact h.elim | skip
      cases h2 : late cs ds e1 with
      | none => rw [h2] at h; exact h.elim
      | some ds' =>
        rw [h2] at h
        have hn : (pg.prOf (pg.callN KK n)).ownD (.stat C m) ds' = none := by
          show (pg.prOf (pg.callN KK n)).ownC (.stat C m) ds' = none
          unfold Pr.ownC
          have : ownF (pg.prOf (pg.callN KK n)).dun (pg.prOf (pg.callN KK n)).sta (.stat C m) ds' = none := by
            rw [ownF_stat]
            show (if small ds'.length then ((pg.stats.getD C []).lookup m).map _ else none) = none
            rw [hl]
            split <;> rfl
          rw [this]; rfl
        simp only [hn, R.ofO] at h
        exact h.elim
end
end TE
/-! Te24: the check is sound: expressions. -/
namespace TE
open PySem L2
def TOk (X : Cx) (x : Expr) (t : TT) : Prop := PT X x t ∧ (isBoolE x = true → PW X x t)
section
variable {T : Tb} {pg : Pg} {g : G} {q : Q9} {KK n : Nat} {B : Bl} {sc : Scope} {X : Cx} {x : Expr}
theorem no_bool {x : Expr} {t : TT} (h : PT X x t) (hb : isBoolE x = false) : TOk X x t := ⟨h, fun z => by rw [hb] at z; cases z⟩
theorem strip_pw_and {y : Expr} {r : List Expr} {pos : Pos} {t : TT} (h : TOk X (strip1 (.BoolOp .And (y :: r) pos)) t) : PW X (.BoolOp .And (y :: r) pos) t := by
  cases r with
  | nil => exact pw_and1 h.1
  | cons z r => exact h.2 rfl
theorem strip_pw_or {y : Expr} {r : List Expr} {pos : Pos} {t : TT} (h : TOk X (strip1 (.BoolOp .Or (y :: r) pos)) t) : PW X (.BoolOp .Or (y :: r) pos) t := by
  cases r with
  | nil => exact pw_or1 h.1
  | cons z r => exact h.2 rfl
/-- a slot given away -/
theorem l_mv (X0 : XO T pg g q KK n B sc X) {p : Pr} {i : Nat} {y : Str} {pos : Pos} (h1 : nsp B.N i y = true) (h2 : isV sc y = true) (h3 : okN y = true) (hk : B.mk' i = .m) : PE X (.Name y pos) (rdE false g B.mk' (evE p (.mv i))) := by
  refine PE.weak (l_name X0 h1 h2 h3) fun σ H Q h => ?_
  obtain ⟨F, e, en, h⟩ := h
  simp only [evE] at h
  cases hg : get e i with
  | none => rw [hg] at h; exact h.elim
  | some d =>
    rw [hg] at h
    obtain ⟨P, hs, nf, r⟩ := en.m i d hk hg
    have hP : ∃ o, H P = some o := by
      obtain ⟨o, ho, _⟩ := root_mut r
      exact ⟨o, ho⟩
    have gs : ∀ j, get (e.set i none) j = if i = j then none else get e j := fun j => by
      rw [get_set]
      by_cases z : i = j
      · rw [if_pos z, if_pos z]; split <;> rfl
      · rw [if_neg z, if_neg z]
    have gz : ∀ j d, get (e.set i none) j = some d → i ≠ j ∧ get e j = some d := fun j d h => by
      rw [gs] at h
      by_cases z : i = j
      · rw [if_pos z] at h; cases h
      · rw [if_neg z] at h; exact ⟨z, h⟩
    have ms : ∀ a, Ms B.mk' σ (e.set i none) a → Ms B.mk' σ e a ∧ a ≠ P := fun a ⟨j, d', k1, k2, k3⟩ => by
      obtain ⟨z, k2⟩ := gz j d' k2
      refine ⟨⟨j, d', k1, k2, k3⟩, fun ea => ?_⟩
      subst ea
      exact en.ne i j d d' a hk k1 z hg k2 hs k3
    have en1 : REnv g B.mk' F H σ (e.set i none) := by
      refine ⟨en.fd, fun j d' k1 k2 => en.n j d' k1 (gz j d' k2).2, fun j d' k1 k2 => en.m j d' k1 (gz j d' k2).2, fun j d' k1 k2 => ?_, fun j j' d1 d2 a k1 k2 k3 k4 k5 => en.ne j j' d1 d2 a k1 k2 k3 (gz j d1 k4).2 (gz j' d2 k5).2, by rw [List.length_set]; exact en.len⟩
      obtain ⟨v, hv, x⟩ := en.b j d' k1 (gz j d' k2).2
      refine ⟨v, hv, x.imp id fun ⟨a, ea, nm, r⟩ => ⟨a, ea, fun z => nm (ms a z).1, r⟩⟩
    refine ⟨.ref P, hs, h (fz F P) H (.ref P) ⟨⟨fun a z => .inl z, fun a z => ?_, fun a o e _ => e, fun a o e => ⟨o, e⟩, (en1.fz hP fun z => (ms P z).2 rfl).fd⟩, en1.fz hP fun z => (ms P z).2 rfl, fun j d' k1 k2 => ⟨d', (gz j d' k2).2, fun _ => rfl⟩⟩ ?_⟩
    · rcases z with z | rfl
      · exact .inl z
      · exact .inr (.inr ⟨i, d, hk, hg, hs⟩)
    · unfold RV
      rw [if_neg (by simp)]
      exact (Root.fz r).rep (.inr rfl)
abbrev pr (pg : Pg) (KK n : Nat) : Pr := pg.prOf (pg.callN KK n)
theorem split_no {p : Pr} {a : E} {es : List E} {f : Bool} {mk : Nat → Kd} : PE X x (rdE f g mk (evE p (.met .split a es))) := PE.no fun σ H Q h => by
  obtain ⟨F, e, en, h⟩ := h
  simp only [evE] at h
  rcases R_cases (evE p a e) with ⟨d, e1, h1⟩ | ⟨_, e1, h1⟩ | h1 <;> rw [h1] at h <;> simp only [R.bind] at h
  all_goals first | exact h.elim | skip
  rcases R_cases (evEs p es e1) with ⟨ds, e2, h2⟩ | ⟨_, e2, h2⟩ | h2 <;> rw [h2] at h <;> simp only at h
  all_goals first | exact h.elim | skip
  split at h
  · exact h.elim
  · exact h.elim
theorem plainOk (X0 : XO T pg g q KK n B sc X) {e : E} {f : Bool} {t : Bool} (h : PE X x (rdE f g B.mk' (evE (pr pg KK n) e))) (hf : frE (pr pg KK n) e = f) (he : ∀ whole, isTrue x X.env whole = (do let v ← whole; standAt x.pos; holding [v] (truthy v))) (ht : ∀ ev, evT (pr pg KK n) e ev = (evE (pr pg KK n) e ev).bind fun d e1 => .ofO (truth d) e1) (hb : isBoolE x = false) :
    (t = false → PE X x (rdE (frE (pr pg KK n) e) g B.mk' (evE (pr pg KK n) e))) ∧ (t = true → TOk X x (rdT g B.mk' (evT (pr pg KK n) e))) := by
  subst hf
  exact ⟨fun _ => h, fun _ => no_bool (t_plain X0 h he ht) hb⟩
theorem rdO_of {p : Pr} {c : E} (h : PE X x (rdE (frE p c) g B.mk' (evE p c))) (hv : ∀ i, c ≠ .v i) : PE X x (rdO g B.mk' p c) := by
  cases c <;> first | exact h | exact absurd rfl (hv _)
mutual
theorem chkE_ok : ∀ (e : E) (t : Bool) (sc : Scope) (X : Cx) (x : Expr), XO T pg g q KK n B sc X → chkE T pg B e t sc x = true → (t = false → PE X x (rdE (frE (pr pg KK n) e) g B.mk' (evE (pr pg KK n) e))) ∧ (t = true → TOk X x (rdT g B.mk' (evT (pr pg KK n) e)))
  | .bad, t, sc, X, x, X0, h => ⟨fun _ => PE.no fun σ H Q h => by
      obtain ⟨F, e, en, h⟩ := h
      simp only [evE] at h
      exact h, fun _ => ⟨⟨fun pins s σ H Q I hq => by
      obtain ⟨F, e, en, h⟩ := hq
      simp only [evT, evE] at h
      exact h.elim⟩, fun _ => ⟨fun w pins s σ H Q I hq => by
      obtain ⟨F, e, en, h⟩ := hq
      simp only [evT, evE] at h
      exact h.elim⟩⟩⟩
  | .v i, t, sc, X, x, X0, h => by
    obtain ⟨y, pos, rfl, h1, h2, h3, h4⟩ := inv_v h
    refine ⟨fun ht => ?_, fun _ => no_bool (t_v X0 h1 h2 h3) rfl⟩
    rcases h4 with h4 | h4
    · rw [ht] at h4; cases h4
    · exact l_v X0 h1 h2 h3 h4
  | .k d, t, sc, X, x, X0, h => by
    obtain ⟨c, j, pos, rfl, h1⟩ := inv_k h
    exact plainOk X0 (l_k h1) rfl (fun _ => rfl) (fun _ => by simp only [evT]) rfl
  | .op o es, t, sc, X, x, X0, h => by
    rcases inv_op h with ⟨xs, j, pos, rfl, rfl, h1⟩ | ⟨xs, pos, rfl, rfl, h1⟩ | ⟨h1, h2⟩
    · obtain ⟨a, b⟩ := chkEs_ok es sc X xs X0 h1
      exact plainOk X0 (l_tup b a) rfl (fun _ => rfl) (evT_op _ _) rfl
    · obtain ⟨a, b⟩ := chkEs_ok es sc X xs X0 h1
      exact plainOk X0 (l_lst b a) rfl (fun _ => rfl) (evT_op _ _) rfl
    · obtain ⟨a, b, c⟩ := l_op X0 h1 (chkAs_ok es sc X _ X0 h2)
      exact ⟨fun _ => a, fun _ => no_bool b c⟩
  | .own w es, t, sc, X, x, X0, h => by
    obtain ⟨h1, h2⟩ := inv_own h
    obtain ⟨o, nk⟩ := chkEs_ok es sc X _ X0 h2
    obtain ⟨a, b, c⟩ := l_own X0 h1 o nk
    exact ⟨fun _ => a, fun _ => no_bool b c⟩
  | .and_ a b, t, sc, X, x, X0, h => by
    obtain ⟨y, z, r, pos, rfl, h1, h2⟩ := inv_and h
    obtain ⟨a1, a2⟩ := chkE_ok a t sc X _ X0 h1
    obtain ⟨b1, b2⟩ := chkE_ok b t sc X _ X0 h2
    refine ⟨fun ht => l_and (a1 ht) (b1 ht), fun ht => ?_⟩
    have := w_and (a2 ht).1 (strip_pw_and (b2 ht))
    exact ⟨this.pt, fun _ => this⟩
  | .or_ a b, t, sc, X, x, X0, h => by
    obtain ⟨y, z, r, pos, rfl, h1, h2⟩ := inv_or h
    obtain ⟨a1, a2⟩ := chkE_ok a t sc X _ X0 h1
    obtain ⟨b1, b2⟩ := chkE_ok b t sc X _ X0 h2
    refine ⟨fun ht => l_or (a1 ht) (b1 ht), fun ht => ?_⟩
    have := w_or (a2 ht).1 (strip_pw_or (b2 ht))
    exact ⟨this.pt, fun _ => this⟩
  | .not_ a, t, sc, X, x, X0, h => by
    obtain ⟨y, pos, rfl, h1⟩ := inv_not h
    obtain ⟨a1, a2⟩ := chkE_ok a t sc X _ X0 h1
    exact ⟨fun ht => l_not (a1 ht), fun ht => no_bool (t_not (a2 ht).1) rfl⟩
  | .ite c a b, t, sc, X, x, X0, h => by
    obtain ⟨y, z, w, pos, rfl, rfl, h1, h2, h3⟩ := inv_ite h
    obtain ⟨_, c2⟩ := chkE_ok c true sc X _ X0 h1
    obtain ⟨a1, _⟩ := chkE_ok a false sc X _ X0 h2
    obtain ⟨b1, _⟩ := chkE_ok b false sc X _ X0 h3
    exact ⟨fun _ => l_ite (c2 rfl).1 (a1 rfl) (b1 rfl), fun ht => by cases ht⟩
  | .chain o o' a b c, t, sc, X, x, X0, h => by
    obtain ⟨u, p1, p2, v, w, pos, rfl, k1, k2, k3, k4, k5, h1, h2, h3⟩ := inv_chain h
    obtain ⟨a1, _⟩ := chkE_ok a false sc X _ X0 h1
    obtain ⟨b1, _⟩ := chkE_ok b false sc X _ X0 h2
    obtain ⟨c1, _⟩ := chkE_ok c false sc X _ X0 h3
    exact ⟨fun _ => l_chain X0 k1 k2 k3 k4 k5 (a1 rfl) (b1 rfl) (c1 rfl), fun _ => no_bool (t_chain X0 k1 k2 k3 k4 k5 (a1 rfl) (b1 rfl) (c1 rfl)) rfl⟩
  | .call f es dfl, t, sc, X, x, X0, h => by
    obtain ⟨y, px, a, as, pos, d, rfl, rfl, h0, h1, h2, h3, h4, h5, h6⟩ := inv_call h
    obtain ⟨o, L⟩ := chkKs_ok es d.fi.kd sc X _ X0 h5
    unfold ioOk at h6
    simp only [Bool.and_eq_true, decide_eq_true_eq, List.all_eq_true, Bool.not_eq_true'] at h6
    have L' : Lent B.mk' d.fi.kd es := ⟨L.1, L.2.1, L.2.2, fun j k i a1 a2 a3 => io_u h6.1 (fun i hi hb => by have := h6.2 i hi; simp [hb] at this) j k i a1 a2 a3 (by rw [← L.1]; exact lt_of_get a3)⟩
    refine plainOk X0 (l_call X0 h0 h1 h2 h3 h4 L' o) ?_ (fun _ => rfl) (fun _ => by simp only [evT]) rfl
    show (pg.fiOf f).own = _
    unfold Pg.fiOf
    rw [h4]
  | .fld f a, t, sc, X, x, X0, h => by
    obtain ⟨o, pos, rfl, h1, h2⟩ := inv_fld h
    obtain ⟨a1, _⟩ := chkE_ok a false sc X _ X0 h2
    exact plainOk X0 (l_fld X0 (fun C => (X0.gf.fl C).symm) h1 (a1 rfl)) rfl (fun _ => rfl) (fun _ => by simp only [evT]) rfl
  | .met m a es, t, sc, X, x, X0, h => by
    obtain ⟨o, apos, y, ys, cpos, rfl, h1, h2, h3, h4, h5⟩ := inv_met h
    obtain ⟨a1, _⟩ := chkE_ok a false sc X _ X0 h4
    have ops := chkAs_ok es sc X _ X0 h5
    cases m with
    | join => exact plainOk X0 (l_met h1 h2 h3 (a1 rfl) ops (fun d ds z h => by cases d <;> first | (cases h; done) | exact ⟨_, rfl⟩) PySem.F.slot_str_join PySem.F.type_str_join m_join) rfl (fun _ => rfl) (fun _ => by simp only [evT]) rfl
    | split => exact plainOk X0 (split_no (f := true)) rfl (fun _ => rfl) (fun _ => by simp only [evT]) rfl
  | .sl a lo hi, t, sc, X, x, X0, h => by
    obtain ⟨y, l, u, p2, pos, rfl, h1, h2, h3⟩ := inv_sl h
    have ha : PE X y (rdO g B.mk' (pr pg KK n) a) := by
      rcases h1 with ⟨i, z, pz, rfl, rfl, k1, k2, k3⟩ | h1
      · exact l_name X0 k1 k2 k3
      · by_cases hv : ∃ i, a = .v i
        · obtain ⟨i, rfl⟩ := hv
          obtain ⟨z, pz, rfl, k1, k2, k3, _⟩ := inv_v h1
          exact l_name X0 k1 k2 k3
        · exact rdO_of ((chkE_ok a false sc X _ X0 h1).1 rfl) fun i z => hv ⟨i, z⟩
    exact plainOk X0 (l_sl X0 ha (chkO_ok lo sc X l X0 h2) (chkO_ok hi sc X u X0 h3)) rfl (fun _ => rfl) (fun _ => by simp only [evT]) rfl
  | .lc own tg it ifs elt, t, sc, X, x, X0, h => by
    obtain ⟨y, ta, i, cs, scope, pos, rfl, rfl, h1, h2, h3, h4, h5, h6, h7, h8⟩ := inv_lc h
    exact ⟨fun _ => l_lc X0 (chkI_ok it sc X ta i X0 h5) h1 h4 h2 h3 h8 (fun X' X0' => chkTs_ok ifs _ X' cs X0' h6) (fun X' X0' => (chkE_ok elt false _ X' y X0' h7).1 rfl), fun ht => by cases ht⟩
  | .mv i, t, sc, X, x, X0, h => by
    obtain ⟨y, pos, rfl, rfl, h1, h2, h3, h4⟩ := inv_mv h
    exact ⟨fun _ => l_mv X0 h1 h2 h3 h4, fun ht => by cases ht⟩
  | .pop i a, t, sc, X, x, X0, h => by
    obtain ⟨z, px, apos, y, cpos, rfl, rfl, h1, h2, h3, h4, h5, h6, h7⟩ := inv_pop h
    exact ⟨fun _ => l_pop X0 h1 h2 h3 h4 h5 h6 ((chkE_ok a false sc X _ X0 h7).1 rfl), fun ht => by cases ht⟩
  | .callK s es, t, sc, X, x, X0, h => by
    obtain ⟨y, px, as, kws, pos, hh, d, rfl, h1, h2, h3, h4, h5, h6, h7, h8, h9, h10⟩ := inv_callK h
    have o := chkAs_ok es sc X _ X0 h10
    obtain ⟨a, b, c⟩ := lent_of h8
    unfold ioOk at h9
    simp only [Bool.and_eq_true, decide_eq_true_eq, List.all_eq_true, Bool.not_eq_true'] at h9
    have L : Lent B.mk' d.fi.kd (pickE hh.sel es) := ⟨a, b, c, fun j k i a1 a2 a3 => io_u h9.1 (fun i hi hb => by have := h9.2 i hi; simp [hb] at this) j k i a1 a2 a3 (by rw [← a]; exact lt_of_get a3)⟩
    refine plainOk X0 (l_callK X0 h1 h2 h4 h3 h7 h5 h6 L o) ?_ (fun _ => rfl) (fun _ => by simp only [evT]) rfl
    show (pg.fiOf (pg.sh.getD s _).f).own = _
    rw [List.getD_eq_getElem?_getD, h3]
    show (pg.fiOf hh.f).own = _
    unfold Pg.fiOf
    rw [h7]
  | .mkK s C es, t, sc, X, x, X0, h => by
    obtain ⟨y, px, as, kws, pos, hh, d, rfl, h1, h2, h3, h4, h5, h6, h7, h8, h9, h11, h12, h13, h10⟩ := inv_mkK h
    have o := chkAs_ok es sc X _ X0 h10
    obtain ⟨a, b, c⟩ := lent_of h12
    unfold ioOk at h13
    simp only [Bool.and_eq_true, decide_eq_true_eq, List.all_eq_true, Bool.not_eq_true'] at h13
    have L : Lent B.mk' (d.fi.kd.drop 1) (pickE hh.sel es) := ⟨a, b, c, fun j k i a1 a2 a3 => io_u h13.1 (fun i hi hb => by have z := h13.2 i hi; rw [List.contains_iff_mem.mpr hb] at z; cases z) j k i a1 a2 a3 (by rw [← a]; exact lt_of_get a3)⟩
    have hkd : d.fi.kd = .m :: d.fi.kd.drop 1 := by
      cases hz : d.fi.kd with
      | nil => rw [hz] at h11; cases h11
      | cons k r =>
        rw [hz] at h11
        simp only [List.head?_cons, Option.some.injEq] at h11
        rw [h11]; rfl
    exact plainOk X0 (l_mkK X0 h1 h2 h4 h5 h6 h3 h9 hkd h7 h8 L o) rfl (fun _ => rfl) (fun _ => by simp only [evT]) rfl
  | .mk C es dfl, t, sc, X, x, X0, h => (inv_none (.inl ⟨C, es, dfl, rfl⟩) h).elim
  | .meth m o es dfl, t, sc, X, x, X0, h => (inv_none (.inr ⟨m, o, es, dfl, rfl⟩) h).elim
theorem chkAs_ok : ∀ (cs : List E) (sc : Scope) (X : Cx) (xs : List Expr), XO T pg g q KK n B sc X → chkAs T pg B cs sc xs = true → Ops X g B.mk' (pr pg KK n) cs xs
  | [], sc, X, xs, X0, h => by
    rw [nil_As h]; exact .nil
  | c :: cs, sc, X, xs, X0, h => by
    obtain ⟨x, es, rfl, h1, h2⟩ := inv_As h
    have o := chkAs_ok cs sc X es X0 h2
    rcases h1 with ⟨i, y, pos, rfl, rfl, k1, k2, k3⟩ | ⟨k1, k2⟩
    · exact .cons (l_name X0 k1 k2 k3) rfl o
    · by_cases hv : ∃ i, c = .v i
      · obtain ⟨i, rfl⟩ := hv
        obtain ⟨z, pz, rfl, k1, k2, k3, _⟩ := inv_v k2
        exact .cons (l_name X0 k1 k2 k3) rfl o
      · exact .cons (rdO_of ((chkE_ok c false sc X _ X0 k2).1 rfl) fun i z => hv ⟨i, z⟩) k1 o
theorem chkEs_ok : ∀ (cs : List E) (sc : Scope) (X : Cx) (xs : List Expr), XO T pg g q KK n B sc X → chkEs T pg B cs sc xs = true → Ops X g B.mk' (pr pg KK n) cs xs ∧ NK B.mk' cs
  | [], sc, X, xs, X0, h => by
    rw [nil_Es h]; exact ⟨.nil, fun _ h => by cases h⟩
  | c :: cs, sc, X, xs, X0, h => by
    obtain ⟨x, es, rfl, k1, k2, h2⟩ := inv_Es h
    obtain ⟨o, nk⟩ := chkEs_ok cs sc X es X0 h2
    by_cases hv : ∃ i, c = .v i
    · obtain ⟨i, rfl⟩ := hv
      obtain ⟨z, pz, rfl, k1, k2, k3, k4⟩ := inv_v k2
      refine ⟨.cons (l_name X0 k1 k2 k3) rfl o, fun j hj => ?_⟩
      rcases List.mem_cons.mp hj with e | hj
      · cases e
        exact k4.elim (fun z => by cases z) id
      · exact nk j hj
    · refine ⟨.cons (rdO_of ((chkE_ok c false sc X _ X0 k2).1 rfl) fun i z => hv ⟨i, z⟩) k1 o, fun j hj => ?_⟩
      rcases List.mem_cons.mp hj with e | hj
      · exact absurd ⟨j, e.symm⟩ hv
      · exact nk j hj
theorem chkO_ok : ∀ (cs : List E) (sc : Scope) (X : Cx) (l : Option Expr), XO T pg g q KK n B sc X → chkEs T pg B cs sc l.toList = true → OptE X g B.mk' (pr pg KK n) cs l
  | [], sc, X, l, X0, h => by
    have := nil_Es h
    cases l with
    | none => exact .none
    | some _ => cases this
  | c :: cs, sc, X, l, X0, h => by
    obtain ⟨x, es, hl, k1, k2, h2⟩ := inv_Es h
    cases l with
    | none => cases hl
    | some y =>
      cases hl
      have : cs = [] := by
        cases cs with
        | nil => rfl
        | cons c2 cs =>
          obtain ⟨_, _, hl, _⟩ := inv_Es h2
          cases hl
      subst this
      exact .some ((chkE_ok c false sc X _ X0 k2).1 rfl)
theorem chkKs_ok : ∀ (cs : List E) (ks : List Kd) (sc : Scope) (X : Cx) (xs : List Expr), XO T pg g q KK n B sc X → chkKs T pg B cs ks sc xs = true → Ops X g B.mk' (pr pg KK n) cs xs ∧ cs.length = ks.length ∧ (∀ (j : Nat) c, ks[j]? = some Kd.m → cs[j]? = some c → ∃ i, c = E.v i ∧ B.mk' i = Kd.m) ∧ (∀ (j : Nat) i, ks[j]? = some Kd.n → cs[j]? = some (E.v i) → B.mk' i = .n)
  | [], ks, sc, X, xs, X0, h => by
    obtain ⟨rfl, rfl⟩ := nil_Ks h
    exact ⟨.nil, rfl, fun j c h => by simp at h, fun j c h => by simp at h⟩
  | c :: cs, ks, sc, X, xs, X0, h => by
    obtain ⟨k, kr, x, es, rfl, rfl, h1, h2⟩ := inv_Ks h
    obtain ⟨o, a, b, d⟩ := chkKs_ok cs kr sc X es X0 h2
    have hd : PE X x (rdO g B.mk' (pr pg KK n) c) ∧ nst x = true ∧ (k = .m → ∃ i, c = E.v i ∧ B.mk' i = .m) ∧ (∀ i, k = .n → c = .v i → B.mk' i = .n) := by
      rcases h1 with ⟨i, y, pos, rfl, rfl, k1, k2, k3, k4⟩ | ⟨k0, k1, k2⟩
      · refine ⟨l_name X0 k1 k2 k3, rfl, fun hk => ?_, fun j hk _ => ?_⟩
        · rcases k4 with ⟨_, k4⟩ | k4
          · exact ⟨i, rfl, k4⟩
          · rw [k4] at hk; cases hk
        · rcases k4 with ⟨k4, _⟩ | k4 <;> (rw [k4] at hk; cases hk)
      · by_cases hv : ∃ i, c = .v i
        · obtain ⟨i, rfl⟩ := hv
          obtain ⟨z, pz, rfl, k1, k2, k3, k4⟩ := inv_v k2
          refine ⟨l_name X0 k1 k2 k3, rfl, fun hk => absurd hk k0, fun j _ e => ?_⟩
          cases e
          exact k4.elim (fun z => by cases z) id
        · exact ⟨rdO_of ((chkE_ok c false sc X _ X0 k2).1 rfl) fun i z => hv ⟨i, z⟩, k1, fun hk => absurd hk k0, fun i _ e => absurd ⟨i, e⟩ hv⟩
    refine ⟨.cons hd.1 hd.2.1 o, congrArg (· + 1) a, fun j c' e1 e2 => ?_, fun j i e1 e2 => ?_⟩
    · cases j with
      | zero =>
        simp only [List.getElem?_cons_zero, Option.some.injEq] at e1 e2
        subst e2
        exact hd.2.2.1 e1
      | succ j => exact b j c' (by simpa using e1) (by simpa using e2)
    · cases j with
      | zero =>
        simp only [List.getElem?_cons_zero, Option.some.injEq] at e1 e2
        exact hd.2.2.2 i e1 e2
      | succ j => exact d j i (by simpa using e1) (by simpa using e2)
theorem chkTs_ok : ∀ (cs : List E) (sc : Scope) (X : Cx) (xs : List Expr), XO T pg g q KK n B sc X → chkTs T pg B cs sc xs = true → PTs X xs (rdT g B.mk' (evTs (pr pg KK n) cs))
  | [], sc, X, xs, X0, h => by
    cases xs with
    | nil => exact l_tests0
    | cons _ _ => cases h
  | [c], sc, X, xs, X0, h => by
    cases xs with
    | nil => cases h
    | cons x xs =>
      cases xs with
      | cons _ _ => cases h
      | nil =>
        have h : chkE T pg B c true sc x = true := h
        have e : evTs (pr pg KK n) [c] = evT (pr pg KK n) c := by funext ev; simp only [evTs]
        rw [e]
        exact pts_one ((chkE_ok c true sc X x X0 h).2 rfl).1
  | _ :: _ :: _, sc, X, xs, X0, h => by
    cases xs with
    | nil => cases h
    | cons x xs => cases xs <;> cases h
theorem chkI_ok : ∀ (it : It) (sc : Scope) (X : Cx) (ta x : Expr), XO T pg g q KK n B sc X → chkI T pg B it sc ta x = true → PI X ta x (rdI g B.mk' (pr pg KK n) it)
  | .val c, sc, X, ta, x, X0, h => by
    have h : chkE T pg B c false sc x = true := by
      unfold chkI at h
      exact h
    exact it_val X0 ((chkE_ok c false sc X x X0 h).1 rfl)
  | .slot i, sc, X, ta, x, X0, h => by
    unfold chkI at h
    split at h <;> first | contradiction | skip
    cases ‹It.slot i = _›
    simp only [Bool.and_eq_true] at h
    exact it_slot X0 h.1.1 h.1.2 h.2
  | .rng c, sc, X, ta, x, X0, h => by
    unfold chkI at h
    split at h <;> first | contradiction | skip
    cases ‹It.rng c = _›
    rw [Bool.and_eq_true, Bool.and_eq_true] at h
    exact it_rng X0 h.1.1 h.1.2 ((chkE_ok c false _ X _ X0 h.2).1 rfl)
  | .rng2 c d, sc, X, ta, x, X0, h => by
    unfold chkI at h
    split at h <;> first | contradiction | skip
    cases ‹It.rng2 c d = _›
    rw [Bool.and_eq_true, Bool.and_eq_true, Bool.and_eq_true, Bool.and_eq_true] at h
    exact it_rng2 X0 h.1.1.1.1 h.1.1.1.2 h.1.1.2 ((chkE_ok c false _ X _ X0 h.1.2).1 rfl) ((chkE_ok d false _ X _ X0 h.2).1 rfl)
  | .zip c d, sc, X, ta, x, X0, h => by
    unfold chkI at h
    split at h <;> first | contradiction | skip
    cases ‹It.zip c d = _›
    simp only [Bool.and_eq_true] at h
    exact it_zip X0 h.1.1.1.1.1.1 (by rw [Bool.and_eq_true]; exact ⟨h.1.1.1.1.1.2, h.1.1.1.1.2⟩) h.1.1.1.2 h.1.1.2 ((chkE_ok c false _ X _ X0 h.1.2).1 rfl) ((chkE_ok d false _ X _ X0 h.2).1 rfl)
  | .enu c, sc, X, ta, x, X0, h => by
    unfold chkI at h
    split at h <;> first | contradiction | skip
    cases ‹It.enu c = _›
    simp only [Bool.and_eq_true] at h
    exact it_enu X0 h.1.1.1.1 (by rw [Bool.and_eq_true]; exact ⟨h.1.1.1.2, h.1.1.2⟩) h.1.2 ((chkE_ok c false _ X _ X0 h.2).1 rfl)
end
end
end TE
/-! Te25: statements, one form after another. -/
namespace TE
open PySem L2
section
variable {T : Tb} {pg : Pg} {g : G} {q : Q9} {KK n : Nat} {B : Bl} {sc : Scope} {X : Cx} {x : Expr} {S : Sb} {own : Bool} {gs : List Nat} {p : Pr} {K : Nat} {mk : Nat → Kd}
theorem SI.off {σ σ' : L2.St} {e e' : Ev} {F : Addr → Prop} {H : Hp} (s : SI g mk S σ e F H) (o : Off mk σ e σ' e') (en : REnv g mk F H σ' e') (hg : ∀ i ∈ S.gs, σ'[i]? = σ[i]?) : SI g mk S σ' e' F H :=
  s.go (Stp.refl s.en.fd) en hg fun j d' q h1 h2 h3 => by
    have z : mk j ≠ .n := by rw [h1]; decide
    rw [o.e j z] at h2; rw [o.s j z] at h3
    exact .inl ⟨h3, d', h2⟩
theorem setOk_of {i : Nat} {m : Bool} (h : setOk B sc gs (i, m) x = true) : ∃ y pos, x = .Name y pos ∧ B.N[i]? = some y ∧ isSet sc allS y = true ∧ B.mk' i = (if m then .m else .n) ∧ i ∉ gs := by
  unfold setOk at h
  split at h
  · simp only [Bool.and_eq_true, beq_iff_eq, Bool.not_eq_true'] at h
    exact ⟨_, _, rfl, nsp_of h.1.1.1, h.1.1.2, h.1.2, by simpa using h.2⟩
  · cases h
theorem l_set1 (X0 : XO T pg g q KK n B sc X) (xs : XS X) {i : Nat} {m : Bool} (h : setOk B sc gs (i, m) x = true) : PG X x (gName i) := by
  obtain ⟨y, pos, rfl, h1, h2, h3, _⟩ := setOk_of h
  obtain ⟨a, b⟩ := set_loc X0 (fun x _ => xs.fn x) h2
  exact pg_name (by rw [X0.N]; exact X0.nd) (by rw [X0.N]; exact h1) a b
theorem l_sets (X0 : XO T pg g q KK n B sc X) (xs : XS X) : ∀ {is : List (Nat × Bool)} {es : List Expr}, all2 (setOk B sc gs) is es = true → PGs X es (gNs (is.map (·.1))) ∧ (assignEach es X.env).length = is.length ∧ (assignEach es X.env).findIdx? (·.1) = none ∧ (∀ i ∈ is, B.mk' i.1 = if i.2 then .m else .n) ∧ ∀ i ∈ is, i.1 ∉ gs
  | [], [], _ => ⟨pgs_nil, rfl, rfl, fun _ h => (by cases h), fun _ h => by cases h⟩
  | [], _ :: _, h => by cases h
  | _ :: _, [], h => by cases h
  | (i, m) :: is, e :: es, h => by
    simp only [all2, Bool.and_eq_true] at h
    obtain ⟨a, b, c, d, f⟩ := l_sets X0 xs h.2
    have pg1 := l_set1 X0 xs h.1
    obtain ⟨y, pos, rfl, h1, h2, h3, h4⟩ := setOk_of h.1
    refine ⟨pgs_cons pg1 a rfl, congrArg (· + 1) b, ?_, fun j hj => ?_, fun j hj => ?_⟩
    · show List.findIdx? (·.1) ((false, _) :: assignEach es X.env) = none
      rw [List.findIdx?_cons, c]; rfl
    · rcases List.mem_cons.mp hj with rfl | hj
      · exact h3
      · exact d j hj
    · rcases List.mem_cons.mp hj with rfl | hj
      · exact h4
      · exact f j hj
theorem set_read {i : Nat} {m : Bool} {a : E} {D : Ends} {σ : L2.St} {H : Hp} (hk : mk i = (if m then .m else .n)) (hi : i ∉ S.gs) (hf : m = true → frE p a = true) (hq : rdS g mk S own (exS p K (.set i m a)) D σ H) : tAsg (rdE (frE p a) g mk (evE p a)) (gName i) D σ H := by
  obtain ⟨F, e, si, hq⟩ := hq
  simp only [exS] at hq
  rcases R_cases (evE p a e) with ⟨d, e1, h1⟩ | ⟨_, e1, h1⟩ | h1 <;> rw [h1] at hq <;> simp only [R.bind] at hq
  all_goals first | exact hq.elim | skip
  cases hs : setK (i, m) d e1 with
  | none => rw [hs] at hq; exact hq.elim
  | some e2 =>
    rw [hs] at hq
    cases m with
    | false =>
      have := setK_n hs
      subst this
      exact use si.en ⟨d, e1, h1, fun F1 H1 v af r => hq _ F1 H1 ((si.aft af).setn hk hi r)⟩
    | true =>
      obtain ⟨hd, rfl⟩ := setK_m hs
      rw [hf rfl]
      refine ⟨F, e, si.en, ?_⟩
      rw [h1]
      intro F1 H1 v af r
      unfold RV at r
      rw [if_pos (by rw [hd]; rfl)] at r
      obtain ⟨P, rfl, hn, nf, ro⟩ := r
      exact hq _ F1 H1 (si.eo af.st ((EO.init si.en af).setm hk hn (by simp) nf ro) fun j hj => List.getElem?_set_ne fun z => hi (by rw [z]; exact hj))
theorem par_read {is : List (Nat × Bool)} {es : List E} {D : Ends} {σ : L2.St} {H : Hp} (hk : ∀ i ∈ is, mk i.1 = if i.2 then .m else .n) (hi : ∀ i ∈ is, i.1 ∉ S.gs) (hf : all2 (fun m c => !m || frE p c) (is.map (·.2)) es = true) (hq : rdS g mk S own (exS p K (.par is es)) D σ H) :
    rdPs g mk p es σ H fun vs H1 => vs.length = is.length ∧ ∀ H2, (H2 = H1 ∨ ∃ T, H1 T = none ∧ H2 = upd H1 T (.tup vs)) → D.nx (setS (is.map (·.1)) vs σ) H2 := by
  obtain ⟨F, e, si, hq⟩ := hq
  simp only [exS] at hq
  rcases R_cases (evEs p es e) with ⟨ds, e1, h1⟩ | ⟨_, e1, h1⟩ | h1 <;> rw [h1] at hq <;> simp only [R.bind] at hq
  all_goals first | exact hq.elim | skip
  cases hs : setKs is ds e1 with
  | none => rw [hs] at hq; exact hq.elim
  | some e2 =>
    rw [hs] at hq
    refine pars_use (P := []) (Hs := H) si.en (fun a ha => by cases ha) (fun a ha => ha) hf h1 fun F1 H1 vs af rs => ⟨by rw [rs.len, List.length_map], fun H2 h2 => ?_⟩
    obtain ⟨P', eo⟩ := eo_sets (EO.init si.en af) hk rs hs
    have si2 : SI g mk S (setS (is.map (·.1)) vs σ) e2 F1 H1 := si.eo af.st eo fun j hj => setS_out fun z => by
      obtain ⟨i, h3, rfl⟩ := List.mem_map.mp z
      exact hi i h3 hj
    rcases h2 with rfl | ⟨T', hT, rfl⟩
    · exact hq _ F1 _ si2
    · exact hq _ F1 _ (si2.aft (Aft.add si2.en (stp_new si2.en.fd hT)))
theorem rdPs_mono : ∀ {cs : List E} {σ : L2.St} {H : Hp} {Q Q' : List V → Hp → Prop}, rdPs g mk p cs σ H Q → (∀ vs H, vs.length = cs.length → Q vs H → Q' vs H) → rdPs g mk p cs σ H Q'
  | [], _, H, _, _, h, k => k [] H rfl h
  | c :: cs, σ, H, _, _, h, k => rdE_mono h fun v H1 h1 => rdPs_mono (cs := cs) h1 fun vs H2 hl h2 => k (v :: vs) H2 (congrArg (· + 1) hl) h2
/-- the values of a tuple's items -/
theorem pa_of (X0 : XO T pg g q KK n B sc X) : ∀ {cs : List E} {xs : List Expr}, chkEs T pg B cs sc xs = true → PA X xs (rdPs g B.mk' (pr pg KK n) cs)
  | [], xs, h => by rw [nil_Es h]; exact pa_nil
  | c :: cs, xs, h => by
    obtain ⟨x, es, rfl, k1, k2, h2⟩ := inv_Es h
    exact pa_cons ((chkE_ok c false sc X _ X0 k2).1 rfl) (pa_of X0 h2) (star_ns k1 _ _)
def sw23 (sc : Scope) : List Expr → List Str → Bool
  | [.Name x _, .Name y _], [x', y'] => x == x' && y == y' && isLoc sc x && isLoc sc y
  | [.Name x _, .Name y _, .Name z _], [x', y', z'] => x == x' && y == y' && z == z' && isLoc sc x && isLoc sc y && isLoc sc z
  | _, _ => false
theorem isLoc_of {y : Str} (h : isLoc sc y = true) : sc.names.lookup y = some .local := by
  unfold isLoc at h
  split at h
  · assumption
  · cases h
theorem s_par (X0 : XO T pg g q KK n B sc X) (xs : XS X) {is : List (Nat × Bool)} {es : List E} {ts vs : List Expr} {k k2 : Nat} {pt pt2 pos : Pos} (hg : S.gs = gs) (h1 : all2 (setOk B sc gs) is ts = true) (hn : (is.map (·.1)).Nodup) (hf : all2 (fun m c => !m || frE (pr pg KK n) c) (is.map (·.2)) es = true) (hv : chkEs T pg B es sc vs = true)
    (hw : (match swP sc ts vs with | some none => true | some (some ns) => sw23 sc ts ns | none => false) = true) (hl : es.length ≤ 20) : PS X (.Assign [.Tuple ts k pt] (.Tuple vs k2 pt2) pos) (rdS g B.mk' S own (exS (pr pg KK n) K (.par is es))) := by
  obtain ⟨a, b, c, d, f⟩ := l_sets X0 xs h1
  have pa := pa_of X0 hv
  have rd : ∀ (D : Ends) (σ : L2.St) (H : Hp), rdS g B.mk' S own (exS (pr pg KK n) K (.par is es)) D σ H → _ := fun D σ H hq => par_read (K := K) d (by rw [hg]; exact f) hf hq
  cases hsw : swP sc ts vs with
  | none => rw [hsw] at hw; cases hw
  | some r =>
    have hsw' := swP_ok (k := k) (k' := k2) (p := pt) (p' := pt2) xs.bk (by rw [X0.sc]; exact hsw)
    cases r with
    | none =>
      refine PS.weak (ps_asg (pe_tup pa) (pg_tup X0.calm a b c) rfl hsw' rfl) fun D σ H hq => ?_
      refine rdPs_mono (rd D σ H hq) fun vs H1 hvl h => ⟨?_, fun T' hT => ⟨T', vs, rfl, .inl (.inl upd_same), h.1, gNs_use (by rw [h.1, List.length_map]) (h.2 _ (.inr ⟨T', hT, rfl⟩))⟩⟩
      rw [hvl]
      exact Nat.le_trans hl (by decide)
    | some ns =>
      rw [hsw] at hw
      simp only at hw
      unfold sw23 at hw
      split at hw <;> first | (cases hw; done) | skip
      · rename_i x px y py x' y'
        simp only [Bool.and_eq_true, beq_iff_eq] at hw
        obtain ⟨⟨⟨rfl, rfl⟩, l1⟩, l2⟩ := hw
        match is, h1, hn, a, b, c, d, f, rd with
        | [(i, m), (j, m')], h1, hn, a, b, c, d, f, rd =>
          simp only [all2, Bool.and_eq_true] at h1
          obtain ⟨_, _, e1, n1, _⟩ := setOk_of h1.1
          obtain ⟨_, _, e2, n2, _⟩ := setOk_of h1.2.1
          cases e1; cases e2
          have hij : i ≠ j := fun z => by subst z; simp at hn
          match vs, hsw', pa with
          | [u, w], hsw', pa =>
            refine PS.weak (ps_par X0.calm (by rw [X0.N]; exact X0.nd) (by rw [X0.N]; exact n1) (by rw [X0.N]; exact n2) hij (by rw [X0.sc]; exact isLoc_of l1) (by rw [X0.sc]; exact isLoc_of l2) pa hsw' rfl) fun D σ H hq => ?_
            refine rdPs_mono (rd D σ H hq) fun vs H1 hvl h => ?_
            match vs, h with
            | [v1, v2], h => exact ⟨v1, v2, rfl, h.2 _ (.inl rfl)⟩
      · rename_i x px y py z pz x' y' z'
        simp only [Bool.and_eq_true, beq_iff_eq] at hw
        obtain ⟨⟨⟨⟨⟨rfl, rfl⟩, rfl⟩, l1⟩, l2⟩, l3⟩ := hw
        match is, h1, hn, a, b, c, d, f, rd with
        | [(i, m), (j, m'), (l, m'')], h1, hn, a, b, c, d, f, rd =>
          simp only [all2, Bool.and_eq_true] at h1
          obtain ⟨_, _, e1, n1, _⟩ := setOk_of h1.1
          obtain ⟨_, _, e2, n2, _⟩ := setOk_of h1.2.1
          obtain ⟨_, _, e3, n3, _⟩ := setOk_of h1.2.2.1
          cases e1; cases e2; cases e3
          have hij : i ≠ j := fun z => by subst z; simp at hn
          have hil : i ≠ l := fun z => by subst z; simp at hn
          have hjl : j ≠ l := fun z => by subst z; simp at hn
          match vs, hsw', pa with
          | [u, w, w'], hsw', pa =>
            refine PS.weak (ps_par3 X0.calm (by rw [X0.N]; exact X0.nd) (by rw [X0.N]; exact n1) (by rw [X0.N]; exact n2) (by rw [X0.N]; exact n3) hij hil hjl (by rw [X0.sc]; exact isLoc_of l1) (by rw [X0.sc]; exact isLoc_of l2) (by rw [X0.sc]; exact isLoc_of l3) pa hsw' rfl) fun D σ H hq => ?_
            refine rdPs_mono (rd D σ H hq) fun vs H1 hvl h => ?_
            match vs, h with
            | [v1, v2, v3], h => exact ⟨v1, v2, v3, rfl, h.2 _ (.inl rfl)⟩
end
end TE
/-! Te26: statements: names set, unpacked, objects written, tests, loops. -/
namespace TE
open PySem L2
section
variable {T : Tb} {pg : Pg} {g : G} {q : Q9} {KK n : Nat} {B : Bl} {sc : Scope} {X : Cx} {x : Expr} {S : Sb} {own : Bool} {gs : List Nat} {p : Pr} {K : Nat} {mk : Nat → Kd}
def okSet : Expr → Bool
  | .SetComp .. => false
  | .DictComp .. => false
  | _ => true
theorem swW_ok {env : Env} {v : Expr} {y : Str} {pos : Pos} {line : Nat} (hb : env.blockKind = .function) (hv : okSet v = true) : swapsWith v (some (.Name y pos)) line env = pure (swW env.scope v (.Name y pos)) := by
  cases v <;> first | rfl | (cases hv; done) | skip
  unfold swapsWith swW
  simp only [hb, beq_self_eq_true, Bool.true_and]
  rfl
theorem s_set (X0 : XO T pg g q KK n B sc X) (xs : XS X) {i : Nat} {m : Bool} {a : E} {t v : Expr} {pos : Pos} (hg : S.gs = gs) (h1 : setOk B sc gs (i, m) t = true) (hf : (!m || frE (pr pg KK n) a) = true) (hv : okSet v = true) (hc : chkE T pg B a false sc v = true) : PS X (.Assign [t] v pos) (rdS g B.mk' S own (exS (pr pg KK n) K (.set i m a))) := by
  obtain ⟨y, py, rfl, k1, k2, k3, k4⟩ := setOk_of h1
  obtain ⟨l1, l2⟩ := set_loc X0 (fun x _ => xs.fn x) k2
  have rd : ∀ (D : Ends) (σ : L2.St) (H : Hp), rdS g B.mk' S own (exS (pr pg KK n) K (.set i m a)) D σ H → tAsg (rdE (frE (pr pg KK n) a) g B.mk' (evE (pr pg KK n) a)) (gName i) D σ H := fun D σ H hq => set_read k3 (by rw [hg]; exact k4) (fun z => by rw [z] at hf; exact hf) hq
  have hsw := swW_ok (line := pos.line) xs.bk hv (y := y) (pos := py)
  rw [X0.sc] at hsw
  cases hw : swW sc v (.Name y py) with
  | false =>
    rw [hw] at hsw
    exact PS.weak (ps_set (by rw [X0.N]; exact X0.nd) (by rw [X0.N]; exact k1) l1 ((chkE_ok a false sc X v X0 hc).1 rfl) hsw l2) fun D σ H hq => rd D σ H hq
  | true =>
    rw [hw] at hsw
    -- a comprehension
    have hlc : ∃ own' tg it ifs elt, a = .lc own' tg it ifs elt ∨ a = .bad := by
      cases a <;> first | exact ⟨_, _, _, _, _, .inl rfl⟩ | exact ⟨[], .nm 0, .val .bad, [], .bad, .inr rfl⟩ | skip
      all_goals
        exfalso
        cases v <;> first | (cases hw; done) | skip
        first
          | (obtain ⟨_, _, z, _⟩ := inv_v hc; cases z)
          | (obtain ⟨_, _, _, z, _⟩ := inv_k hc; cases z)
          | (rcases inv_op hc with ⟨_, _, _, _, z, _⟩ | ⟨_, _, _, z, _⟩ | ⟨z, _⟩
             · cases z
             · cases z
             · unfold shape at z; split at z <;> contradiction)
          | (obtain ⟨z, _⟩ := inv_own hc
             unfold ownS at z; split at z <;> contradiction)
          | (obtain ⟨_, _, _, _, z, _⟩ := inv_and hc; cases z)
          | (obtain ⟨_, _, _, _, z, _⟩ := inv_or hc; cases z)
          | (obtain ⟨_, _, z, _⟩ := inv_not hc; cases z)
          | (obtain ⟨_, _, _, _, z, _⟩ := inv_ite hc; cases z)
          | (obtain ⟨_, _, _, _, _, _, z, _⟩ := inv_chain hc; cases z)
          | (obtain ⟨_, _, _, _, _, _, _, z, _⟩ := inv_call hc; cases z)
          | (obtain ⟨_, _, z, _⟩ := inv_fld hc; cases z)
          | (obtain ⟨_, _, _, _, _, z, _⟩ := inv_met hc; cases z)
          | (obtain ⟨_, _, _, _, _, z, _⟩ := inv_sl hc; cases z)
          | (obtain ⟨_, _, z, _⟩ := inv_mv hc; cases z)
          | (obtain ⟨_, _, _, _, _, z, _⟩ := inv_pop hc; cases z)
          | (obtain ⟨_, _, _, _, _, _, _, z, _⟩ := inv_callK hc; cases z)
          | (obtain ⟨_, _, _, _, _, _, _, z, _⟩ := inv_mkK hc; cases z)
          | (exact inv_none (.inl ⟨_, _, _, rfl⟩) hc)
          | (exact inv_none (.inr ⟨_, _, _, _, rfl⟩) hc)
    obtain ⟨own', tg, it, ifs, elt, rfl | rfl⟩ := hlc
    · obtain ⟨y', ta, i', cs, scope, pos', rfl, _, h1, h2, h3, h4, h5, h6, h7, h8⟩ := inv_lc hc
      have hyl : sc.names.lookup y = some .local := by
        unfold swW at hw
        simp only [Bool.and_eq_true, beq_iff_eq] at hw
        exact hw.1.1
      exact PS.weak (l_setLc X0 k1 hyl hsw (chkI_ok it sc X ta i' X0 h5) h1 h4 h2 h3 h8 (fun X' X0' => chkTs_ok ifs _ X' cs X0' h6) (fun X' X0' => (chkE_ok elt false _ X' y' X0' h7).1 rfl)) fun D σ H hq => rd D σ H hq
    · refine ⟨fun pins s σ H D I hq => ?_⟩
      obtain ⟨F, e, si, hq⟩ := hq
      simp only [exS, evE] at hq
      exact hq.elim
def notTup : Expr → Bool
  | .Tuple _ _ _ => false
  | _ => true
theorem s_unp (X0 : XO T pg g q KK n B sc X) (xs : XS X) {is : List Nat} {a : E} {ts : List Expr} {v : Expr} {k : Nat} {pt pos : Pos} (hg : S.gs = gs) (h1 : tgOk B sc allS (.tp is) (.Tuple ts k pt) = true) (h2 : is.all (fun i => !gs.contains i) = true) (hv : notTup v = true) (hc : chkE T pg B a false sc v = true) : PS X (.Assign [.Tuple ts k pt] v pos) (rdS g B.mk' S own (exS (pr pg KK n) K (.unp is a))) := by
  obtain ⟨pg1, kn⟩ := l_tg X0 (fun x _ => xs.fn x) h1
  have hs : swapsWithSole [.Tuple ts k pt] v pos.line X.env = pure false := by cases v <;> rfl
  have hw : swappedStores [.Tuple ts k pt] v X.env = pure none := by cases v <;> first | rfl | (cases hv; done)
  refine PS.weak (ps_asg ((chkE_ok a false sc X v X0 hc).1 rfl) pg1 hs hw rfl) fun D σ H hq => ?_
  obtain ⟨F, e, si, hq⟩ := hq
  simp only [exS] at hq
  rcases R_cases (evE (pr pg KK n) a e) with ⟨d, e1, h3⟩ | ⟨_, e1, h3⟩ | h3 <;> rw [h3] at hq <;> simp only [R.bind] at hq
  all_goals first | exact hq.elim | skip
  cases h4 : setT (.tp is) d e1 with
  | none => rw [h4] at hq; exact hq.elim
  | some e2 =>
    rw [h4] at hq
    refine use si.en ⟨d, e1, h3, fun F1 H1 w af r => ?_⟩
    refine tg_use X0.gf.hK af.en kn r h4 fun σ' en' off hout hlen => hq σ' F1 H1 ((si.aft af).off off en' fun j hj => hout j fun z => ?_)
    have := List.all_eq_true.mp h2 j z
    rw [hg] at hj
    simp [hj] at this
theorem s_expr (X0 : XO T pg g q KK n B sc X) {a : E} {v : Expr} {pos : Pos} (hv : notComp v = true) (hc : chkE T pg B a false sc v = true) : PS X (.Expr v pos) (rdS g B.mk' S own (exS (pr pg KK n) K (.expr a))) := by
  refine PS.weak (ps_expr ((chkE_ok a false sc X v X0 hc).1 rfl) (by cases v <;> first | rfl | (cases hv; done))) fun D σ H hq => ?_
  obtain ⟨F, e, si, hq⟩ := hq
  simp only [exS] at hq
  rcases R_cases (evE (pr pg KK n) a e) with ⟨d, e1, h3⟩ | ⟨_, e1, h3⟩ | h3 <;> rw [h3] at hq <;> simp only [R.bind] at hq
  all_goals first | exact hq.elim | skip
  exact use si.en ⟨d, e1, h3, fun F1 H1 w af r => hq σ F1 H1 (si.aft af)⟩
theorem s_ret (X0 : XO T pg g q KK n B sc X) {a : E} {v : Expr} {pos : Pos} (hf : (!own || frE (pr pg KK n) a) = true) (hc : chkE T pg B a false sc v = true) : PS X (.Return (some v) pos) (rdS g B.mk' S own (exS (pr pg KK n) K (.ret a))) := by
  refine PS.weak (ps_ret ((chkE_ok a false sc X v X0 hc).1 rfl)) fun D σ H hq => ?_
  obtain ⟨F, e, si, hq⟩ := hq
  simp only [exS] at hq
  rcases R_cases (evE (pr pg KK n) a e) with ⟨d, e1, h3⟩ | ⟨_, e1, h3⟩ | h3 <;> rw [h3] at hq <;> simp only [R.bind] at hq
  all_goals first | exact hq.elim | skip
  cases own with
  | false => exact use si.en ⟨d, e1, h3, fun F1 H1 w af r => hq σ F1 H1 w (si.aft af) (by unfold RV; rw [if_neg (by simp)]; exact r)⟩
  | true =>
    have hf : frE (pr pg KK n) a = true := hf
    show rdE (frE (pr pg KK n) a) g B.mk' (evE (pr pg KK n) a) σ H D.rt
    rw [hf]
    refine ⟨F, e, si.en, ?_⟩
    rw [h3]
    intro F1 H1 w af r
    refine hq σ F1 H1 w (si.aft af) ?_
    unfold RV at r ⊢
    split
    · rename_i hc
      rw [if_pos hc] at r
      obtain ⟨P, e1, hn, nf, ro⟩ := r
      exact ⟨P, e1, si.hz P hn, nf, ro⟩
    · rename_i hc
      rw [if_neg hc] at r
      exact r
/-- a slot's own object returned -/
theorem s_retm (X0 : XO T pg g q KK n B sc X) {i : Nat} {y : Str} {py pos : Pos} (ho : own = true) (h1 : nsp B.N i y = true) (h2 : isV sc y = true) (h3 : okN y = true) (hk : B.mk' i = .m) (hn : S.np ≤ i) : PS X (.Return (some (.Name y py)) pos) (rdS g B.mk' S own (exS (pr pg KK n) K (.ret (.v i)))) := by
  refine PS.weak (ps_ret (l_name X0 h1 h2 h3)) fun D σ H hq => ?_
  obtain ⟨F, e, si, hq⟩ := hq
  simp only [exS, evE] at hq
  cases hg : get e i with
  | none => rw [hg] at hq; exact hq.elim
  | some d =>
    rw [hg] at hq
    obtain ⟨P, hP, nf, r⟩ := si.en.m i d hk hg
    refine ⟨.ref P, hP, hq σ F H (.ref P) si ?_⟩
    subst ho
    unfold RV
    rw [if_pos (by rw [root_isM r]; rfl)]
    exact ⟨P, rfl, si.lo i d P hk hn hg hP, nf, r⟩
theorem s_retN {pos : Pos} : PS X (.Return none pos) (rdS g B.mk' S own (exS (pr pg KK n) K (.ret (.k .non)))) := by
  refine PS.weak ps_retN fun D σ H hq => ?_
  obtain ⟨F, e, si, hq⟩ := hq
  simp only [exS, evE] at hq
  exact hq σ F H .non si (by unfold RV; rw [if_neg (by simp [TE.D.isM])]; exact .non)
theorem s_if (X0 : XO T pg g q KK n B sc X) {c : E} {a b : List TE.S} {v : Expr} {as bs : List Stmt} {pos : Pos} (hc : chkE T pg B c true sc v = true) (ha : PSs X as (rdS g B.mk' S own (exSs (pr pg KK n) K a))) (hb : PSs X bs (rdS g B.mk' S own (exSs (pr pg KK n) K b))) : PS X (.If v as bs pos) (rdS g B.mk' S own (exS (pr pg KK n) K (.if_ c a b))) := by
  refine PS.weak (ps_if ((chkE_ok c true sc X v X0 hc).2 rfl).1 ha hb) fun D σ H hq => ?_
  obtain ⟨F, e, si, hq⟩ := hq
  simp only [exS] at hq
  rcases R_cases (evT (pr pg KK n) c e) with ⟨d, e1, h3⟩ | ⟨_, e1, h3⟩ | h3 <;> rw [h3] at hq <;> simp only [R.bind] at hq
  all_goals first | exact hq.elim | skip
  refine ⟨F, e, si.en, ?_⟩
  rw [h3]
  intro F1 H1 af
  cases d with
  | true =>
    simp only [if_true] at hq ⊢
    exact ⟨F1, e1, si.aft af, hq⟩
  | false =>
    simp only [Bool.false_eq_true, if_false] at hq ⊢
    exact ⟨F1, e1, si.aft af, hq⟩
theorem s_nil : PSs X [] (rdS g mk S own (exSs p K [])) := by
  refine PSs.weak pss_nil fun D σ H hq => ?_
  obtain ⟨F, e, si, hq⟩ := hq
  simp only [exSs] at hq
  exact hq σ F H si
theorem s_cons {s : TE.S} {r : List TE.S} {st : Stmt} {rest : List Stmt} (h1 : PS X st (rdS g mk S own (exS p K s))) (h2 : PSs X rest (rdS g mk S own (exSs p K r))) : PSs X (st :: rest) (rdS g mk S own (exSs p K (s :: r))) := by
  refine PSs.weak (pss_cons h1 h2) fun D σ H hq => ?_
  obtain ⟨F, e, si, hq⟩ := hq
  refine ⟨F, e, si, ?_⟩
  simp only [exSs] at hq
  rcases R_cases (exS p K s e) with ⟨f, e1, h3⟩ | ⟨_, e1, h3⟩ | h3 <;> rw [h3] at hq ⊢ <;> simp only [R.bind] at hq
  all_goals first | exact hq.elim | skip
  cases f with
  | next => exact fun σ' F' H' si' => ⟨F', e1, si', hq⟩
  | brk => exact hq
  | cont => exact hq
  | ret d => exact hq
theorem s_whl (X0 : XO T pg g q KK n B sc X) (xs : XS X) {c : E} {b : List TE.S} {v : Expr} {bs : List Stmt} {pos : Pos} (hc : chkE T pg B c true sc v = true) (hb : PSs X bs (rdS g B.mk' S own (exSs (pr pg KK n) K b))) : PS X (.While v bs [] pos) (rdS g B.mk' S own (exS (pr pg KK n) K (.whl c b))) := by
  refine PS.weak (ps_while xs.po ((chkE_ok c true sc X v X0 hc).2 rfl).1 hb) fun D σ H hq => ?_
  obtain ⟨F, e, si, hq⟩ := hq
  simp only [exS] at hq
  refine ⟨fun m σ H => ∃ F e, SI g B.mk' S σ e F H ∧ GoodS g B.mk' S own D (whlL (evT (pr pg KK n) c) (exSs (pr pg KK n) K b) m e), ⟨K, F, e, si, hq⟩, ?_⟩
  rintro m σ1 H1 ⟨F1, e1, si1, hq1⟩
  cases m with
  | zero => exact hq1.elim
  | succ m =>
    simp only [whlL] at hq1
    rcases R_cases (evT (pr pg KK n) c e1) with ⟨d, e2, h3⟩ | ⟨_, e2, h3⟩ | h3 <;> rw [h3] at hq1 <;> simp only [R.bind] at hq1
    all_goals first | exact hq1.elim | skip
    refine ⟨F1, e1, si1.en, ?_⟩
    rw [h3]
    intro F2 H2 af
    cases d with
    | false =>
      simp only [Bool.false_eq_true, if_false] at hq1 ⊢
      exact hq1 σ1 F2 H2 (si1.aft af)
    | true =>
      simp only [if_true] at hq1 ⊢
      rcases R_cases (exSs (pr pg KK n) K b e2) with ⟨f, e3, h4⟩ | ⟨_, e3, h4⟩ | h4 <;> rw [h4] at hq1 <;> simp only at hq1
      all_goals first | exact hq1.elim | skip
      cases f with
      | next =>
        refine ⟨fun σ' H' => ∃ F', SI g B.mk' S σ' e3 F' H', fun σ' H' ⟨F', s'⟩ => ⟨m, by omega, F', e3, s', hq1⟩, F2, e2, si1.aft af, ?_⟩
        rw [h4]
        exact fun σ' F' H' s' => ⟨F', s'⟩
      | cont =>
        refine ⟨fun σ' H' => ∃ F', SI g B.mk' S σ' e3 F' H', fun σ' H' ⟨F', s'⟩ => ⟨m, by omega, F', e3, s', hq1⟩, F2, e2, si1.aft af, ?_⟩
        rw [h4]
        exact fun σ' F' H' s' => ⟨F', s'⟩
      | brk =>
        refine ⟨fun _ _ => False, fun σ' H' z => z.elim, F2, e2, si1.aft af, ?_⟩
        rw [h4]
        exact hq1
      | ret d =>
        refine ⟨fun _ _ => False, fun σ' H' z => z.elim, F2, e2, si1.aft af, ?_⟩
        rw [h4]
        exact hq1
end
end TE
/-! Te27: for; objects written; the check of statements. -/
namespace TE
open PySem L2
section
variable {T : Tb} {pg : Pg} {g : G} {q : Q9} {KK n : Nat} {B : Bl} {sc : Scope} {X : Cx} {x : Expr} {S : Sb} {own : Bool} {gs : List Nat} {p : Pr} {K : Nat} {mk : Nat → Kd}
theorem SI.pop {b : Bs} {ls : List Nat} {σ σ0 : L2.St} {e : Ev} {F : Addr → Prop} {H : Hp} (s : SI g mk ⟨b :: S.bs, ls ++ S.gs, σ0, S.np, S.Hz⟩ σ e F H) (h : ∀ i ∈ S.gs, σ0[i]? = S.σg[i]?) : SI g mk S σ e F H :=
  ⟨s.en, fun c hc => s.fr c (List.mem_cons_of_mem _ hc), fun i hi => (s.gd i (List.mem_append_right _ hi)).trans (h i hi), s.lo, s.hz⟩
theorem s_for (X0 : XO T pg g q KK n B sc X) (xs : XS X) {t : Tg} {it : TE.It} {b : List TE.S} {ta i : Expr} {bs : List Stmt} {pos : Pos} (hg : S.gs = gs) (h1 : tgOk B sc allS t ta = true) (h2 : (tgSlots t).all (fun i => !(slI it ++ gs).contains i) = true) (hi : chkI T pg B it sc ta i = true) (hns : notSet i = true)
    (hb : ∀ S' : Sb, S'.gs = slI it ++ gs → S'.np = S.np → PSs X bs (rdS g B.mk' S' own (exSs (pr pg KK n) K b))) : PS X (.For ta i bs [] pos) (rdS g B.mk' S own (exS (pr pg KK n) K (.for_ t it b))) := by
  obtain ⟨pg1, kn⟩ := l_tg X0 (fun x _ => xs.fn x) h1
  have hb' : PSs X bs (fun D σ H => ∃ S' : Sb, (S'.gs = slI it ++ gs ∧ S'.np = S.np) ∧ rdS g B.mk' S' own (exSs (pr pg KK n) K b) D σ H) := ⟨fun pins s σ H D I ⟨S', ⟨z1, z2⟩, h⟩ => (hb S' z1 z2).run pins s σ H D I h⟩
  refine PS.weak (ps_for xs.po X0.calm (chkI_ok it sc X ta i X0 hi) pg1 hb' (fun x => by cases i <;> first | rfl | (cases hns; done))) fun D σ H hq => ?_
  obtain ⟨F, e, si, hq⟩ := hq
  simp only [exS] at hq
  rcases R_cases (evI (pr pg KK n) it e) with ⟨xs, e1, h3⟩ | ⟨_, e1, h3⟩ | h3 <;> rw [h3] at hq <;> simp only [R.bind] at hq
  all_goals first | exact hq.elim | skip
  refine ⟨F, e, si.en, xs, e1, h3, fun F1 H1 J af wl => ?_⟩
  have si1 := si.aft af
  have hS : ∀ i ∈ S.gs, σ[i]? = S.σg[i]? := si1.gd
  have st0 : SI g B.mk' ⟨⟨Ms B.mk' σ e1, F1, H1⟩ :: S.bs, slI it ++ S.gs, σ, S.np, S.Hz⟩ σ e1 F1 H1 := ⟨si1.en, fun c hc => by
    rcases List.mem_cons.mp hc with rfl | hc
    · exact ⟨Stp.refl si1.en.fd, fun _ z => .inl z⟩
    · exact si1.fr c hc, fun _ _ => rfl, si1.lo, si1.hz⟩
  refine ⟨fun i m σ' H' => ∃ F' e', m + i = xs.length ∧ SI g B.mk' ⟨⟨Ms B.mk' σ e1, F1, H1⟩ :: S.bs, slI it ++ S.gs, σ, S.np, S.Hz⟩ σ' e' F' H' ∧ GoodS g B.mk' S own D (forL (gdI it xs) t (exSs (pr pg KK n) K b) (xs.drop i) e'), ⟨xs.length, F1, e1, rfl, st0, by simpa using hq⟩, ?_⟩
  rintro i m σ2 H2 ⟨F2, e2, hm, si2, hq2⟩
  have gdc : ∀ i ∈ slI it, ∀ v, σ2[i]? = some (some v) → σ[i]? = some (some v) := fun i hi v h => by
    have := si2.gd i (List.mem_append_left _ hi)
    exact this.symm.trans h
  have stp : Stp (Ms B.mk' σ e1) F1 H1 F2 H2 := (si2.fr _ List.mem_cons_self).1
  by_cases hi : i < xs.length
  · right
    have hdrop : xs.drop i = xs[i] :: xs.drop (i + 1) := List.drop_eq_getElem_cons hi
    rw [hdrop] at hq2
    simp only [forL] at hq2
    have hgd : gdI it xs e2 = true := by
      cases hg : gdI it xs e2 with
      | true => rfl
      | false => rw [hg] at hq2; simp at hq2; exact hq2.elim
    rw [hgd, if_pos rfl] at hq2
    have hx : xs[i]? = some xs[i] := List.getElem?_eq_getElem hi
    obtain ⟨go, yl⟩ := (wl F2 H2 _ e2 stp si2.en gdc hgd i).2 _ hx
    refine ⟨go, ?_⟩
    cases hst : setT t xs[i] e2 with
    | none => rw [hst] at hq2; exact hq2.elim
    | some e3 =>
      rw [hst] at hq2
      simp only at hq2
      have turn : ∀ (v : V) (H3 : Hp), J.yld i H2 v H3 → ∀ Q', (∀ σ3 F3, SI g B.mk' ⟨⟨Ms B.mk' σ e1, F1, H1⟩ :: S.bs, slI it ++ S.gs, σ, S.np, S.Hz⟩ σ3 e3 F3 H3 → Q' σ3 H3) → gTg X.K t v σ2 H3 Q' := fun v H3 hy Q' k => by
        obtain ⟨s3, r3⟩ := yl v H3 hy
        have si3 := si2.aft (Aft.add si2.en s3)
        refine tg_use X0.gf.hK si3.en kn r3 hst fun σ3 en' off hout hlen => k σ3 F2 (si3.off off en' fun j hj => hout j fun z => ?_)
        have := List.all_eq_true.mp h2 j z
        rw [← hg] at this
        have hj : j ∈ slI it ++ S.gs := hj
        simp only [List.contains_eq_mem, hj, decide_true, Bool.not_true] at this
        cases this
      have hSb : slI it ++ S.gs = slI it ++ gs := by rw [hg]
      rcases R_cases (exSs (pr pg KK n) K b e3) with ⟨f, e4, h4⟩ | ⟨_, e4, h4⟩ | h4 <;> rw [h4] at hq2 <;> simp only [R.bind] at hq2
      all_goals first | exact hq2.elim | skip
      cases f with
      | next =>
        refine ⟨fun σ' H' => ∃ F', SI g B.mk' ⟨⟨Ms B.mk' σ e1, F1, H1⟩ :: S.bs, slI it ++ S.gs, σ, S.np, S.Hz⟩ σ' e4 F' H', fun σ' H' ⟨F', s'⟩ => ⟨m - 1, by omega, F', e4, by omega, s', hq2⟩, fun v H3 hy => turn v H3 hy _ fun σ3 F3 s3 => ⟨⟨⟨Ms B.mk' σ e1, F1, H1⟩ :: S.bs, slI it ++ S.gs, σ, S.np, S.Hz⟩, ⟨hSb, rfl⟩, F3, e3, s3, ?_⟩⟩
        rw [h4]
        exact fun σ' F' H' s' => ⟨F', s'⟩
      | cont =>
        refine ⟨fun σ' H' => ∃ F', SI g B.mk' ⟨⟨Ms B.mk' σ e1, F1, H1⟩ :: S.bs, slI it ++ S.gs, σ, S.np, S.Hz⟩ σ' e4 F' H', fun σ' H' ⟨F', s'⟩ => ⟨m - 1, by omega, F', e4, by omega, s', hq2⟩, fun v H3 hy => turn v H3 hy _ fun σ3 F3 s3 => ⟨⟨⟨Ms B.mk' σ e1, F1, H1⟩ :: S.bs, slI it ++ S.gs, σ, S.np, S.Hz⟩, ⟨hSb, rfl⟩, F3, e3, s3, ?_⟩⟩
        rw [h4]
        exact fun σ' F' H' s' => ⟨F', s'⟩
      | brk =>
        refine ⟨fun _ _ => False, fun σ' H' z => z.elim, fun v H3 hy => turn v H3 hy _ fun σ3 F3 s3 => ⟨⟨⟨Ms B.mk' σ e1, F1, H1⟩ :: S.bs, slI it ++ S.gs, σ, S.np, S.Hz⟩, ⟨hSb, rfl⟩, F3, e3, s3, ?_⟩⟩
        rw [h4]
        exact fun σ' F' H' s' => hq2 σ' F' H' (s'.pop hS)
      | ret d =>
        refine ⟨fun _ _ => False, fun σ' H' z => z.elim, fun v H3 hy => turn v H3 hy _ fun σ3 F3 s3 => ⟨⟨⟨Ms B.mk' σ e1, F1, H1⟩ :: S.bs, slI it ++ S.gs, σ, S.np, S.Hz⟩, ⟨hSb, rfl⟩, F3, e3, s3, ?_⟩⟩
        rw [h4]
        exact fun σ' F' H' w s' r => hq2 σ' F' H' w (s'.pop hS) r
  · left
    have hdrop : xs.drop i = [] := List.drop_eq_nil_of_le (by omega)
    rw [hdrop] at hq2
    simp only [forL] at hq2
    have hgd : gdI it xs e2 = true := by
      cases hg : gdI it xs e2 with
      | true => rfl
      | false => rw [hg] at hq2; simp at hq2; exact hq2.elim
    rw [hgd, if_pos rfl] at hq2
    exact ⟨(wl F2 H2 _ _ stp si2.en gdc hgd i).1 (by omega), hq2 σ2 F2 H2 (si2.pop hS)⟩
theorem ixN_of {m : Nat} {i : Int} {k : Nat} (h : ixOf m i = some k) : ixN m i = some k := by
  unfold ixOf at h
  unfold ixN
  by_cases h0 : 0 ≤ i
  · rw [if_pos h0] at h ⊢
    obtain ⟨h1, h2⟩ := ite_some h
    rw [if_pos (by omega), h2]
  · rw [if_neg h0] at h ⊢
    obtain ⟨h1, h2⟩ := ite_some h
    rw [if_pos (by omega), ← h2]
    congr 1
    omega
theorem s_seti (X0 : XO T pg g q KK n B sc X) {i : Nat} {j a : E} {y : Str} {s v : Expr} {py p2 pos : Pos} (h1 : nsp B.N i y = true) (h2 : isV sc y = true) (h3 : okN y = true) (hk : B.mk' i = .m) (hs : plainIx s = true) (hj : chkE T pg B j false sc s = true) (hv : chkE T pg B a false sc v = true) :
    PS X (.Assign [.Subscript (.Name y py) s p2] v pos) (rdS g B.mk' S own (exS (pr pg KK n) K (.seti i j a))) := by
  refine PS.weak (ps_asg ((chkE_ok a false sc X v X0 hv).1 rfl) (pg_sub (l_name X0 h1 h2 h3) ((chkE_ok j false sc X s X0 hj).1 rfl) set_list (fun w => by cases s <;> first | rfl | (cases hs; done))) (by cases v <;> rfl) (by cases v <;> rfl) rfl) fun D σ H hq => ?_
  obtain ⟨F, e, si, hq⟩ := hq
  simp only [exS] at hq
  rcases R_cases (evE (pr pg KK n) a e) with ⟨d, e1, h4⟩ | ⟨_, e1, h4⟩ | h4 <;> rw [h4] at hq <;> simp only [R.bind] at hq
  all_goals first | exact hq.elim | skip
  cases hg1 : get e1 i with
  | none => rw [hg1] at hq; exact hq.elim
  | some d1 =>
    rw [hg1] at hq
    cases d1 <;> first | (exact hq.elim) | skip
    case lst ds1 =>
      simp only at hq
      rcases R_cases (evE (pr pg KK n) j e1) with ⟨x, e2, h5⟩ | ⟨_, e2, h5⟩ | h5 <;> rw [h5] at hq <;> simp only at hq
      all_goals first | exact hq.elim | skip
      cases x <;> first | (exact hq.elim) | skip
      case int m =>
        cases hg : get e2 i with
        | none => rw [hg] at hq; exact hq.elim
        | some d0 =>
          rw [hg] at hq
          cases d0 <;> first | (exact hq.elim) | skip
          case lst ds =>
            simp only at hq
            cases hi : ixOf ds.length m with
            | none => rw [hi] at hq; exact hq.elim
            | some k =>
              rw [hi] at hq
              refine use si.en ⟨d, e1, h4, fun F1 H1 w a1 r1 => ?_⟩
              obtain ⟨P, hP, _⟩ := a1.en.m i _ hk hg1
              refine ⟨.ref P, hP, use a1.en ⟨_, e2, h5, fun F2 H2 w2 a2 r2 => ?_⟩⟩
              cases r2
              obtain ⟨P', hP', nf, vs, hH, rs⟩ := a2.en.m i _ hk hg
              rw [hP] at hP'; cases hP'
              have r1' := r1.stp a1.en.mok a2.st
              refine ⟨P, vs, m, k, rfl, rfl, hH, by rw [rs.length]; exact ixN_of hi, ?_⟩
              have k1 := kids (o := .lst (vs.set k w)) a2.en hk hg hP (rs.set k r1')
              exact hq σ F2 _ (((si.aft a1).aft a2).aft (set_aft a2.en hk hg hP ⟨_, upd_same, k1⟩))
theorem s_app (X0 : XO T pg g q KK n B sc X) {i : Nat} {y : Str} {a : E} {v : Expr} {px apos cpos pos : Pos} (h1 : nsp B.N i y = true) (h2 : isV sc y = true) (h3 : okN y = true) (hk : B.mk' i = .m) (hl : (apos.endLine == cpos.line) = true) (hn : nst v = true) (hc : chkE T pg B a false sc v = true) :
    PS X (.Expr (.Call (.Attribute (.Name y px) "append" apos) [v] [] cpos) pos) (rdS g B.mk' S own (exS (pr pg KK n) K (.app i a))) := by
  have hs1 : starEach [v] X.env = (false, eval v X.env) :: starEach [] X.env := star_ns hn _ _
  refine PS.weak (ps_expr (pe_bm PySem.F.plainAttrs_list PySem.F.slot_list_append PySem.F.type_list_append mt_append (l_name X0 h1 h2 h3) (pa_cons ((chkE_ok a false sc X v X0 hc).1 rfl) pa_nil hs1) rfl (by rw [hs1]; rfl) hl hs1 rfl) rfl) fun D σ H hq => ?_
  obtain ⟨F, e, si, hq⟩ := hq
  simp only [exS] at hq
  cases hg0 : get e i with
  | none => rw [hg0] at hq; exact hq.elim
  | some d0 =>
    rw [hg0] at hq
    cases d0 <;> first | (exact hq.elim) | skip
    case lst ds0 =>
      simp only at hq
      obtain ⟨P, hs, nf, vs0, hP, _⟩ := si.en.m i _ hk hg0
      refine ⟨.ref P, hs, .inl ⟨rfl, vs0, SqL.of hP⟩, ?_⟩
      rcases R_cases (evE (pr pg KK n) a e) with ⟨d, e1, h4⟩ | ⟨_, e1, h4⟩ | h4 <;> rw [h4] at hq <;> simp only [R.bind] at hq
      all_goals first | exact hq.elim | skip
      cases hg : get e1 i with
      | none => rw [hg] at hq; exact hq.elim
      | some d0 =>
        rw [hg] at hq
        cases d0 <;> first | (exact hq.elim) | skip
        case lst ds =>
          simp only at hq
          by_cases hz : small ds.length = true
          · rw [if_pos hz] at hq
            refine use si.en ⟨d, e1, h4, fun F1 H1 w a1 r1 => ?_⟩
            obtain ⟨P', hP', nf', vs, hH, rs⟩ := a1.en.m i _ hk hg
            rw [hs] at hP'; cases hP'
            refine ⟨P, vs, w, rfl, rfl, hH, by rw [rs.length]; exact Nat.lt_of_le_of_lt (of_decide_eq_true hz) (by decide), ?_⟩
            have k1 := kids (o := .lst (vs ++ [w])) a1.en hk hg hs (rs.app (.cons r1 .nil))
            exact hq σ F1 _ ((si.aft a1).aft (set_aft a1.en hk hg hs ⟨_, upd_same, k1⟩))
          · rw [if_neg hz] at hq; exact hq.elim
theorem s_augA (X0 : XO T pg g q KK n B sc X) (xs : XS X) {i : Nat} {a : E} {t v : Expr} {pos : Pos} (hg : S.gs = gs) (h1 : setOk B sc gs (i, false) t = true) (hc : chkE T pg B a false sc v = true) {op : Operator} {o : P} (ho : (op = .Add ∧ o = .add) ∨ (op = .Sub ∧ o = .sub)) : PS X (.AugAssign t op v pos) (rdS g B.mk' S own (exS (pr pg KK n) K (.aug o i a))) := by
  obtain ⟨y, py, rfl, k1, k2, k3, k4⟩ := setOk_of h1
  obtain ⟨l1, l2⟩ := set_loc X0 (fun x _ => xs.fn x) k2
  have key : ∀ (f : Int → Int → Int), (∀ e, exS (pr pg KK n) K (.aug o i a) e = match get e i with
    | some (.int x) => (evE (pr pg KK n) a e).bind fun d e1 => match d with
      | .int y => .ok .next (e1.set i (some (.int (f x y))))
      | _ => .bad
    | _ => .bad) → ∀ D σ H, rdS g B.mk' S own (exS (pr pg KK n) K (.aug o i a)) D σ H → tAug i (rdE (frE (pr pg KK n) a) g B.mk' (evE (pr pg KK n) a)) (ipI f) D σ H := fun f hf D σ H hq => by
    obtain ⟨F, e, si, hq⟩ := hq
    rw [hf] at hq
    cases hg0 : get e i with
    | none => rw [hg0] at hq; exact hq.elim
    | some d0 =>
      rw [hg0] at hq
      cases d0 <;> first | (exact hq.elim) | skip
      case int x =>
        simp only at hq
        obtain ⟨w, hw, r⟩ := si.en.n i _ k3 hg0
        refine ⟨w, hw, ?_⟩
        cases r
        rcases R_cases (evE (pr pg KK n) a e) with ⟨d, e1, h4⟩ | ⟨_, e1, h4⟩ | h4 <;> rw [h4] at hq <;> simp only [R.bind] at hq
        all_goals first | exact hq.elim | skip
        cases d <;> first | (exact hq.elim) | skip
        case int z =>
          refine use si.en ⟨_, e1, h4, fun F1 H1 w a1 r1 => ?_⟩
          cases r1
          exact ⟨x, z, rfl, rfl, hq _ F1 H1 ((si.aft a1).setn k3 (by rw [hg]; exact k4) (.int _))⟩
  rcases ho with ⟨rfl, rfl⟩ | ⟨rfl, rfl⟩
  · exact PS.weak (ps_aug (by rw [X0.N]; exact X0.nd) (by rw [X0.N]; exact k1) l1 ((chkE_ok a false sc X v X0 hc).1 rfl) ip_add l2) (key _ fun e => by simp only [exS] <;> rfl)
  · exact PS.weak (ps_aug (by rw [X0.N]; exact X0.nd) (by rw [X0.N]; exact k1) l1 ((chkE_ok a false sc X v X0 hc).1 rfl) ip_sub l2) (key _ fun e => by simp only [exS] <;> rfl)
theorem putF_new {f : Str} {w : V} : ∀ {ks : List Str} {vs : List V}, vs.length ≤ ks.length → ks[vs.length]? = some f → (ks.take vs.length).contains f = false → putF f w (ks.zip vs) = ks.zip (vs ++ [w])
  | [], vs, h0, h, _ => by simp at h
  | k :: ks, [], h0, h, _ => by
    simp only [List.length_nil, List.getElem?_cons_zero, Option.some.injEq] at h
    subst h
    simp [putF]
  | k :: ks, v :: vs, h0, h, hn => by
    simp only [List.length_cons, List.getElem?_cons_succ] at h
    simp only [List.length_cons, List.take_succ_cons, List.contains_cons, Bool.or_eq_false_iff, beq_eq_false_iff_ne] at hn
    show putF f w ((k, v) :: ks.zip vs) = (k, v) :: ks.zip (vs ++ [w])
    have : putF f w ((k, v) :: ks.zip vs) = (k, v) :: putF f w (ks.zip vs) := by
      show (if k = f then _ else _) = _
      rw [if_neg (fun z => hn.1 z.symm)]
    rw [this, putF_new (by simpa using h0) h hn.2]
theorem s_setf (X0 : XO T pg g q KK n B sc X) {i : Nat} {y f : Str} {a : E} {v : Expr} {py p2 pos : Pos} (h1 : nsp B.N i y = true) (h2 : isV sc y = true) (h3 : okN y = true) (hk : B.mk' i = .m) (hc : chkE T pg B a false sc v = true) :
    PS X (.Assign [.Attribute (.Name y py) f p2] v pos) (rdS g B.mk' S own (exS (pr pg KK n) K (.setf i f a))) := by
  refine PS.weak (ps_fld (l_name X0 h1 h2 h3) ((chkE_ok a false sc X v X0 hc).1 rfl) (by cases v <;> rfl)) fun D σ H hq => ?_
  obtain ⟨F, e, si, hq⟩ := hq
  simp only [exS] at hq
  rcases R_cases (evE (pr pg KK n) a e) with ⟨d, e1, h4⟩ | ⟨_, e1, h4⟩ | h4 <;> rw [h4] at hq <;> simp only [R.bind] at hq
  all_goals first | exact hq.elim | skip
  cases hg : get e1 i with
  | none => rw [hg] at hq; exact hq.elim
  | some d0 =>
    rw [hg] at hq
    cases d0 <;> first | (exact hq.elim) | skip
    case obj C ds =>
      simp only at hq
      split at hq
      · rename_i hcnd
        obtain ⟨c1, c2, c3⟩ := hcnd
        refine use si.en ⟨d, e1, h4, fun F1 H1 w a1 r1 => ?_⟩
        obtain ⟨P, hP, nf, dx, vs, hH, hl, rs⟩ := a1.en.m i _ hk hg
        have hfl : (pr pg KK n).flds C = g.cf C := (X0.gf.fl C).symm
        rw [hfl] at c1 c2
        rw [← rs.length] at c1 c2 c3
        have hm : f ∈ g.cf C := List.mem_of_getElem? c1
        have hC : C < T.nC := X0.gf.fc C fun e0 => by rw [e0] at hm; cases hm
        refine ⟨.ref P, hP, P, g.ca C, dx, _, rfl, hH, X0.gf.hK ▸ (X0.gf.ow.one C hC).cl, X0.gf.na C f hC hm, ?_, ?_⟩
        · rw [List.length_zip]; omega
        · rw [putF_new hl c1 c2]
          have k1 := kids (o := .ins (g.ca C) dx ((g.cf C).zip (vs ++ [w]))) a1.en hk hg hP (rs.app (.cons r1 .nil))
          have hlt := (List.getElem?_eq_some_iff.mp c1).1
          exact hq σ F1 _ ((si.aft a1).aft (set_aft a1.en hk hg hP ⟨dx, vs ++ [w], upd_same, by simp; omega, k1⟩))
      · exact hq.elim
end
end TE
/-! Te28: the check of statements and of defs, sound. -/
namespace TE
open PySem L2
abbrev pr0 (pg : Pg) : Pr := pg.prOf fun _ _ => .bad
theorem frE_fi {p p' : Pr} (h : p.fi = p'.fi) (h2 : p.sh = p'.sh) : ∀ e : E, frE p e = frE p' e
  | .and_ _ b => by simp only [frE]; exact frE_fi h h2 b
  | .or_ _ b => by simp only [frE]; exact frE_fi h h2 b
  | .ite _ a b => by simp only [frE]; rw [frE_fi h h2 a, frE_fi h h2 b]
  | .call f _ _ => by simp only [frE, h]
  | .bad => rfl
  | .v _ => rfl
  | .k _ => rfl
  | .op o _ => by cases o <;> rfl
  | .not_ _ => rfl
  | .chain _ _ _ _ _ => rfl
  | .mk _ _ _ => rfl
  | .meth _ _ _ _ => rfl
  | .fld _ _ => rfl
  | .sl _ _ _ => rfl
  | .met _ _ _ => rfl
  | .lc _ _ _ _ _ => rfl
  | .pop _ _ => rfl
  | .mv _ => rfl
  | .callK s _ => by simp only [frE, h, h2]
  | .mkK _ _ _ => rfl
  | .own _ _ => rfl
theorem frE_pr {pg : Pg} {KK n : Nat} (e : E) : frE (pr0 pg) e = frE (pr pg KK n) e := frE_fi (p := pr0 pg) (p' := pr pg KK n) rfl rfl e
def opOk : P → Operator → Bool
  | .add, .Add => true
  | .sub, .Sub => true
  | _, _ => false
mutual
def chkS (T : Tb) (g : Pg) (B : Bl) (own : Bool) (np : Nat) (sc : Scope) : List Nat → S → Stmt → Bool
  | _, .bad, _ => true
  | _, .pass, .Pass _ => true
  | _, .brk, .Break _ => true
  | _, .cont, .Continue _ => true
  | gs, .set i m a, .Assign [t] v _ => setOk B sc gs (i, m) t && (!m || frE (pr0 g) a) && okSet v && chkE T g B a false sc v
  | gs, .par is es, .Assign [.Tuple ts _ _] (.Tuple vs _ _) _ => all2 (setOk B sc gs) is ts && decide (is.map (·.1)).Nodup && all2 (fun m c => !m || frE (pr0 g) c) (is.map (·.2)) es && chkEs T g B es sc vs && (match swP sc ts vs with | some none => true | some (some ns) => sw23 sc ts ns | none => false) && decide (es.length ≤ 20)
  | gs, .unp is a, .Assign [.Tuple ts k pt] v _ => tgOk B sc allS (.tp is) (.Tuple ts k pt) && is.all (fun i => !gs.contains i) && notTup v && chkE T g B a false sc v
  | gs, .aug o i a, .AugAssign t op v _ => setOk B sc gs (i, false) t && chkE T g B a false sc v && opOk o op
  | _, .seti i j a, .Assign [.Subscript (.Name y _) s _] v _ => nsp B.N i y && isV sc y && okN y && (B.mk' i == .m) && plainIx s && chkE T g B j false sc s && chkE T g B a false sc v
  | _, .setf i f a, .Assign [.Attribute (.Name y _) f' _] v _ => nsp B.N i y && isV sc y && okN y && (B.mk' i == .m) && f == f' && chkE T g B a false sc v
  | _, .app i a, .Expr (.Call (.Attribute (.Name y _) m apos) [v] [] cpos) _ => nsp B.N i y && isV sc y && okN y && (B.mk' i == .m) && m == "append" && (apos.endLine == cpos.line) && nst v && chkE T g B a false sc v
  | _, .expr a, .Expr v _ => notComp v && chkE T g B a false sc v
  | gs, .if_ c a b, .If v p q _ => chkE T g B c true sc v && chkSs T g B own np sc gs a p && chkSs T g B own np sc gs b q
  | gs, .whl c b, .While v p [] _ => chkE T g B c true sc v && chkSs T g B own np sc gs b p
  | gs, .for_ t it b, .For ta i p [] _ => tgOk B sc allS t ta && (tgSlots t).all (fun j => !(slI it ++ gs).contains j) && chkI T g B it sc ta i && notSet i && chkSs T g B own np sc (slI it ++ gs) b p
  | _, .ret a, .Return (some v) _ => (match a, v with | .v i, .Name y _ => own && (B.mk' i == .m) && decide (np ≤ i) && nsp B.N i y && isV sc y && okN y | _, _ => false) || ((!own || frE (pr0 g) a) && chkE T g B a false sc v)
  | _, .ret (.k .non), .Return none _ => true
  | _, _, _ => false
def chkSs (T : Tb) (g : Pg) (B : Bl) (own : Bool) (np : Nat) (sc : Scope) : List Nat → List S → List Stmt → Bool
  | _, [], [] => true
  | gs, s :: r, st :: rest => chkS T g B own np sc gs s st && chkSs T g B own np sc gs r rest
  | _, _, _ => false
end
section
variable {T : Tb} {pg : Pg} {g : G} {q : Q9} {KK n : Nat} {B : Bl} {sc : Scope} {X : Cx} {own : Bool} {np K : Nat}
mutual
theorem chkS_ok (X0 : XO T pg g q KK n B sc X) (xs : XS X) : ∀ (s : S) (gs : List Nat) (S' : Sb) (st : Stmt), S'.gs = gs → S'.np = np → chkS T pg B own np sc gs s st = true → PS X st (rdS g B.mk' S' own (exS (pr pg KK n) K s))
  | .bad, gs, S', st, hg, hn, h => ⟨fun pins s σ H D I hq => by
      obtain ⟨F, e, si, hq⟩ := hq
      simp only [exS] at hq
      exact hq.elim⟩
  | .pass, gs, S', st, hg, hn, h => by
    unfold chkS at h
    split at h <;> first | contradiction | skip
    refine PS.weak ps_pass fun D σ H hq => ?_
    obtain ⟨F, e, si, hq⟩ := hq
    simp only [exS] at hq
    exact hq σ F H si
  | .brk, gs, S', st, hg, hn, h => by
    unfold chkS at h
    split at h <;> first | contradiction | skip
    refine PS.weak ps_break fun D σ H hq => ?_
    obtain ⟨F, e, si, hq⟩ := hq
    simp only [exS] at hq
    exact hq σ F H si
  | .cont, gs, S', st, hg, hn, h => by
    unfold chkS at h
    split at h <;> first | contradiction | skip
    refine PS.weak ps_continue fun D σ H hq => ?_
    obtain ⟨F, e, si, hq⟩ := hq
    simp only [exS] at hq
    exact hq σ F H si
  | .set i m a, gs, S', st, hg, hn, h => by
    unfold chkS at h
    split at h <;> first | contradiction | skip
    cases ‹S.set i m a = _›
    simp only [Bool.and_eq_true] at h
    exact s_set X0 xs hg h.1.1.1 (by rw [← frE_pr]; exact h.1.1.2) h.1.2 h.2
  | .par is es, gs, S', st, hg, hn, h => by
    unfold chkS at h
    split at h <;> first | contradiction | skip
    cases ‹S.par is es = _›
    rw [Bool.and_eq_true, Bool.and_eq_true, Bool.and_eq_true, Bool.and_eq_true, Bool.and_eq_true] at h
    obtain ⟨⟨⟨⟨⟨h1, h2⟩, h3⟩, h4⟩, h5⟩, h6⟩ := h
    refine s_par X0 xs hg h1 (of_decide_eq_true h2) ?_ h4 h5 (of_decide_eq_true h6)
    have e : (fun (m : Bool) c => !m || frE (pr0 pg) c) = fun m c => !m || frE (pr pg KK n) c := by
      funext m c
      rw [frE_pr]
    rw [← e]; exact h3
  | .unp is a, gs, S', st, hg, hn, h => by
    unfold chkS at h
    split at h <;> first | contradiction | skip
    cases ‹S.unp is a = _›
    simp only [Bool.and_eq_true] at h
    exact s_unp X0 xs hg h.1.1.1 h.1.1.2 h.1.2 h.2
  | .aug o i a, gs, S', st, hg, hn, h => by
    unfold chkS at h
    split at h <;> first | contradiction | skip
    cases ‹S.aug o i a = _›
    simp only [Bool.and_eq_true] at h
    refine s_augA X0 xs hg h.1.1 h.1.2 ?_
    have h2 := h.2
    unfold opOk at h2
    split at h2 <;> first | exact .inl ⟨rfl, rfl⟩ | exact .inr ⟨rfl, rfl⟩ | contradiction
  | .seti i j a, gs, S', st, hg, hn, h => by
    unfold chkS at h
    split at h <;> first | contradiction | skip
    cases ‹S.seti i j a = _›
    simp only [Bool.and_eq_true, beq_iff_eq] at h
    obtain ⟨⟨⟨⟨⟨⟨h1, h2⟩, h3⟩, h4⟩, h5⟩, h6⟩, h7⟩ := h
    exact s_seti X0 h1 h2 h3 h4 h5 h6 h7
  | .setf i f a, gs, S', st, hg, hn, h => by
    unfold chkS at h
    split at h <;> first | contradiction | skip
    cases ‹S.setf i f a = _›
    simp only [Bool.and_eq_true, beq_iff_eq] at h
    obtain ⟨⟨⟨⟨⟨h1, h2⟩, h3⟩, h4⟩, rfl⟩, h6⟩ := h
    exact s_setf X0 h1 h2 h3 h4 h6
  | .app i a, gs, S', st, hg, hn, h => by
    unfold chkS at h
    split at h <;> first | contradiction | skip
    cases ‹S.app i a = _›
    simp only [Bool.and_eq_true] at h
    obtain ⟨⟨⟨⟨⟨⟨⟨h1, h2⟩, h3⟩, h4⟩, h5⟩, h6⟩, h7⟩, h8⟩ := h
    have := beq_iff_eq.mp h5
    subst this
    exact s_app X0 h1 h2 h3 (beq_iff_eq.mp h4) h6 h7 h8
  | .expr a, gs, S', st, hg, hn, h => by
    unfold chkS at h
    split at h <;> first | contradiction | skip
    cases ‹S.expr a = _›
    simp only [Bool.and_eq_true] at h
    exact s_expr X0 h.1 h.2
  | .if_ c a b, gs, S', st, hg, hn, h => by
    unfold chkS at h
    split at h <;> first | contradiction | skip
    cases ‹S.if_ c a b = _›
    simp only [Bool.and_eq_true] at h
    exact s_if X0 h.1.1 (chkSs_ok X0 xs a _ S' _ hg hn h.1.2) (chkSs_ok X0 xs b _ S' _ hg hn h.2)
  | .whl c b, gs, S', st, hg, hn, h => by
    unfold chkS at h
    split at h <;> first | contradiction | skip
    cases ‹S.whl c b = _›
    simp only [Bool.and_eq_true] at h
    exact s_whl X0 xs h.1 (chkSs_ok X0 xs b _ S' _ hg hn h.2)
  | .for_ t it b, gs, S', st, hg, hn, h => by
    unfold chkS at h
    split at h <;> first | contradiction | skip
    cases ‹S.for_ t it b = _›
    simp only [Bool.and_eq_true] at h
    obtain ⟨⟨⟨⟨h1, h2⟩, h3⟩, h4⟩, h5⟩ := h
    exact s_for X0 xs hg h1 h2 h3 h4 fun S2 z1 z2 => chkSs_ok X0 xs b _ S2 _ z1 (z2.trans hn) h5
  | .ret a, gs, S', st, hg, hn, h => by
    unfold chkS at h
    split at h <;> first | contradiction | skip
    · cases ‹S.ret a = _›
      rw [Bool.or_eq_true] at h
      rcases h with h | h
      · split at h
        · simp only [Bool.and_eq_true, beq_iff_eq, decide_eq_true_eq] at h
          obtain ⟨⟨⟨⟨⟨h1, h2⟩, h3⟩, h4⟩, h5⟩, h6⟩ := h
          exact s_retm X0 h1 h4 h5 h6 h2 (by rw [hn]; exact h3)
        · cases h
      · rw [Bool.and_eq_true] at h
        exact s_ret X0 (by rw [← frE_pr]; exact h.1) h.2
    · cases ‹S.ret a = _›
      exact s_retN
theorem chkSs_ok (X0 : XO T pg g q KK n B sc X) (xs : XS X) : ∀ (ss : List S) (gs : List Nat) (S' : Sb) (sts : List Stmt), S'.gs = gs → S'.np = np → chkSs T pg B own np sc gs ss sts = true → PSs X sts (rdS g B.mk' S' own (exSs (pr pg KK n) K ss))
  | [], gs, S', sts, hg, hn, h => by
    cases sts with
    | nil => exact s_nil
    | cons _ _ => simp only [chkSs] at h; cases h
  | s :: r, gs, S', sts, hg, hn, h => by
    cases sts with
    | nil => simp only [chkSs] at h; cases h
    | cons st rest =>
      simp only [chkSs, Bool.and_eq_true] at h
      exact s_cons (chkS_ok X0 xs s gs S' st hg hn h.1) (chkSs_ok X0 xs r gs S' rest hg hn h.2)
end
end
end TE
/-! Te29: defs keep their promises. -/
namespace TE
open PySem L2
def mPar : Nat → List Kd → List Nat
  | _, [] => []
  | i, .m :: ks => i :: mPar (i + 1) ks
  | i, _ :: ks => mPar (i + 1) ks
theorem mPar_in : ∀ {ks : List Kd} {i j : Nat}, ks[j]? = some Kd.m → i + j ∈ mPar i ks
  | [], _, _, h => by simp at h
  | k :: ks, i, 0, h => by
    simp only [List.getElem?_cons_zero, Option.some.injEq] at h
    subst h
    simp [mPar]
  | k :: ks, i, j + 1, h => by
    simp only [List.getElem?_cons_succ] at h
    have := mPar_in (i := i + 1) h
    rw [show i + 1 + j = i + (j + 1) by omega] at this
    cases k <;> simp only [mPar] <;> first | exact this | exact List.mem_cons_of_mem _ this
/-- a def's own names -/
def chkD (T : Tb) (g : Pg) (d : Df) (N ps : List Str) (st : Stmt) : Bool :=
  C8.scC N ps (C8.fnScope st) && decide (N.length = d.fi.kd.length + d.more.length) && decide (ps.length = d.fi.kd.length) && chkSs T g ⟨N, d.fi.kd ++ d.more, C8.fnScope st⟩ d.fi.own d.fi.kd.length (C8.fnScope st) (mPar 0 d.fi.kd) d.body (C8.fnBody st)
/-- what is known of the whole text, calls apart -/
structure Gs (T : Tb) (pg : Pg) (g : G) (q : Q9) (K : PySem.W.Frag) (mg : Str → Option Value) : Prop where
  bd : ∀ f d, pg.defs[f]? = some d → T.pl.contains f = true → Binds K (q.fd f) (q.fp f) []
  nm : ∀ x f, T.fns.lookup x = some f → mg x = some (.ref (q.fa f)) ∧ PySem.W.keepIn K (.ref (q.fa f)) = true
  cn : ∀ x C, T.cls.lookup x = some C → mg x = some (.ref (g.ca C))
  off : ∀ x, T.off.contains x = true → mg x = none
  ow : OwnAll g T.nC
  hK : g.K = K
  fl : ∀ C, g.cf C = pg.flds.getD C []
  fc : ∀ C, g.cf C ≠ [] → C < T.nC
  na : ∀ C f, C < T.nC → f ∈ g.cf C → NoAttr K (g.ca C) f
  kb : ∀ (s : Nat) (h : Sh), pg.sh[s]? = some h → (∃ x, T.fns.lookup x = some h.f) → ∃ gU, KBn K (q.fd h.f) (q.fp h.f) h.np h.ks gU fun vs zs => pickV h.sel (q.dv h.f) (vs ++ zs)
  ki : ∀ (s : Nat) (h : Sh) (C : Nat), pg.sh[s]? = some h → pg.init[C]? = some h.f → C < T.nC → ∃ gU, KBn K (q.fd h.f) (q.fp h.f) (h.np + 1) h.ks gU fun vs zs => vs.headD .non :: pickV h.sel (q.dv h.f) (vs.tail ++ zs)
  dv : ∀ (s : Nat) (h : Sh) (j : Nat) (d : D), pg.sh[s]? = some h → Sum.inr (j, d) ∈ h.sel → ∀ F H, Rep g F H (q.dv h.f j) d
  mkc : ∀ C f, C < T.nC → pg.init[C]? = some f → Mk K (g.ca C) (q.fa f)
  mt : ∀ C m f, (pg.meths.getD C []).lookup m = some f → OwT K (g.ca C) m (q.fa f) (q.fd f) (q.fp f) ∧ C < T.nC ∧ ∃ d0, pg.defs[f]? = some d0 ∧ ∀ k ∈ d0.fi.kd, k = .n
  oc : ∀ C m f, (pg.meths.getD C []).lookup m = some f → OcF K (g.ca C) ∧ FiF K
  st : ∀ C m f, (pg.stats.getD C []).lookup m = some f → StF K (g.ca C) m (q.fa f) ∧ ∃ d0 pv, pg.defs[f]? = some d0 ∧ (∀ k ∈ d0.fi.kd, k = .n) ∧ q.fp f = [pv] ∧ ∀ rest : List Value, bindArgs (q.fd f) ⟨rest, []⟩ = (newTuple rest >>= fun t => pure [(pv, t)])
theorem outs_get : ∀ {io : List Bool} {e : Ev} {j : Nat}, get (outsOf io e) j = if io[j]? = some true then get e j else none
  | [], e, j => by simp [outsOf, get]
  | b :: io, e, 0 => by
    cases b <;> cases e <;> simp [outsOf, get]
  | b :: io, e, j + 1 => by
    have := outs_get (io := io) (e := e.tail) (j := j)
    have e1 : get (outsOf (b :: io) e) (j + 1) = get (outsOf io e.tail) j := by simp [outsOf, get]
    have e2 : get e (j + 1) = get e.tail j := by cases e <;> simp [get]
    rw [e1, this, e2]
    simp
theorem outs_len : ∀ {io : List Bool} {e : Ev}, (outsOf io e).length = io.length
  | [], _ => rfl
  | b :: io, e => by simp [outsOf, outs_len]
theorem outs_twice : ∀ {io : List Bool} {e : Ev}, outsOf io (outsOf io e) = outsOf io e
  | [], _ => rfl
  | b :: io, e => by
    simp only [outsOf, List.headD_cons, List.tail_cons, outs_twice]
    cases b <;> simp
theorem get_app {a b : Ev} {i : Nat} : get (a ++ b) i = if i < a.length then get a i else get b (i - a.length) := by
  unfold get
  rw [List.getElem?_append]
  split <;> rfl
theorem get_repl {m i : Nat} : get (List.replicate m none) i = none := by
  unfold get
  rw [List.getElem?_replicate]
  split <;> rfl
section
variable {T : Tb} {pg : Pg} {g : G} {q : Q9} {KK : Nat} {P : Program} {w : World} {K : PySem.W.Frag} {mg : Str → Option Value} {base : Heap}
theorem body_ok (hs : Gs T pg g q K mg) {n f : Nat} {d : Df} (hf : pg.defs[f]? = some d) {qual : Str} {st : Stmt} {N : List Str} (hN : N.length = d.fi.kd.length + d.more.length) (hps : (q.fp f).length = d.fi.kd.length)
    (hck : chkSs T pg ⟨N, d.fi.kd ++ d.more, C8.fnScope st⟩ d.fi.own d.fi.kd.length (C8.fnScope st) (mPar 0 d.fi.kd) d.body (C8.fnBody st) = true) (FS : FnScope N (q.fp f) (C8.fnScope st))
    (ih : ∀ f d, pg.defs[f]? = some d → FnOk P w K mg base C8.CX0 (3 * n) (q.fa f) (q.fd f) (q.fp f) (spOf g d.fi (pg.callN KK n f)))
    (ihs : ∀ C m f, (pg.stats.getD C []).lookup m = some f → StF K (g.ca C) m (q.fa f) ∧ ∃ d0, pg.defs[f]? = some d0 ∧ (∀ k ∈ d0.fi.kd, k = .n) ∧ FnR P w K mg base C8.CX0 (3 * n) (q.fa f) (spSt g d0.fi (pg.callN KK n f)))
    (cdv : Value) (A : Around) (outer : List Env) (s : Shared) (H : Hp) (vs : List V) (Q : VK) (E : XK) (room : Room (3 * n + 2) (A.deeper (PyProof.Rows.envOfC qual (C8.fnScope st) s.heap.objs.size (q.fa f) cdv))) (h : spOf g d.fi (pg.callN KK (n + 1) f) vs H Q E) :
    ∃ t, PSs (cxOf C8.CX0 P w K mg base N qual (C8.fnScope st) (q.fa f) cdv A outer s H E).nox (C8.fnBody st) t ∧ t { nx := fun _ H' => Q .non H', rt := Q } (L2.start N vs) H := by
  obtain ⟨hvl, F, ds, hdl, en, hc⟩ := h
  have gf : Gf T pg g q KK n (cxOf C8.CX0 P w K mg base N qual (C8.fnScope st) (q.fa f) cdv A outer s H E).nox := ⟨ih, hs.bd, hs.nm, hs.cn, hs.off, hs.ow, hs.hK, hs.fl, hs.fc, hs.na, hs.kb, hs.ki, hs.dv, hs.mkc, hs.mt, hs.oc, ihs⟩
  have X0 : XO T pg g q KK n ⟨N, d.fi.kd ++ d.more, C8.fnScope st⟩ (C8.fnScope st) (cxOf C8.CX0 P w K mg base N qual (C8.fnScope st) (q.fa f) cdv A outer s H E).nox := ⟨gf, rfl, FS.nd, rfl, rfl, room⟩
  have xs : XS (cxOf C8.CX0 P w K mg base N qual (C8.fnScope st) (q.fa f) cdv A outer s H E).nox := ⟨fun _ => rfl, by
    show (if (C8.fnScope st).kind.isAnnotationScope then ScopeKind.function else (C8.fnScope st).kind) = .function
    rw [FS.kind]; rfl, PassesOwn.never⟩
  have kdl : ∀ {j : Nat}, j < d.fi.kd.length → Bl.mk' ⟨N, d.fi.kd ++ d.more, C8.fnScope st⟩ j = kdf d.fi.kd j := fun {j} hj => by
    unfold Bl.mk' kdf
    rw [List.getD_eq_getElem?_getD, List.getD_eq_getElem?_getD]
    show ((d.fi.kd ++ d.more)[j]?).getD .n = _
    rw [List.getElem?_append_left hj]
  -- the trees at the entry
  generalize he0 : ds.map some ++ List.replicate d.more.length (none : Option D) = e0
  have ge : ∀ {i : Nat} {t : D}, get e0 i = some t → i < d.fi.kd.length ∧ get (ds.map some) i = some t := fun {i t} h => by
    rw [← he0, get_app] at h
    split at h
    · rename_i hl
      rw [List.length_map, hdl, hvl] at hl
      exact ⟨hl, h⟩
    · rw [get_repl] at h; cases h
  have ge' : ∀ {i : Nat} {t : D}, get (ds.map some) i = some t → get e0 i = some t := fun {i t} h => by
    rw [← he0, get_app, if_pos (get_lt h)]; exact h
  have gσ : ∀ {i : Nat}, i < d.fi.kd.length → (L2.start N vs)[i]? = (vs.map some)[i]? := fun {i} hi => by
    unfold L2.start
    rw [List.getElem?_append_left (by rw [List.length_map, hvl]; exact hi)]
  have ms : ∀ a, Ms (Bl.mk' ⟨N, d.fi.kd ++ d.more, C8.fnScope st⟩) (L2.start N vs) e0 a → Ms (kdf d.fi.kd) (vs.map some) (ds.map some) a := fun a ⟨i, t, h1, h2, h3⟩ => by
    obtain ⟨hi, h2⟩ := ge h2
    rw [kdl hi] at h1
    rw [gσ hi] at h3
    exact ⟨i, t, h1, h2, h3⟩
  have en0 : REnv g (Bl.mk' ⟨N, d.fi.kd ++ d.more, C8.fnScope st⟩) F H (L2.start N vs) e0 := by
    refine ⟨en.fd, fun i t h1 h2 => ?_, fun i t h1 h2 => ?_, fun i t h1 h2 => ?_, fun i j t t' a h1 h2 h3 h4 h5 h6 => ?_, ?_⟩
    · obtain ⟨hi, h2⟩ := ge h2
      rw [kdl hi] at h1; rw [gσ hi]
      exact en.n i t h1 h2
    · obtain ⟨hi, h2⟩ := ge h2
      rw [kdl hi] at h1; rw [gσ hi]
      exact en.m i t h1 h2
    · obtain ⟨hi, h2⟩ := ge h2
      rw [kdl hi] at h1; rw [gσ hi]
      obtain ⟨v, hv, r⟩ := en.b i t h1 h2
      exact ⟨v, hv, r.imp id fun ⟨p, e1, nm, r⟩ => ⟨p, e1, fun z => nm (ms p z), r⟩⟩
    · obtain ⟨hi, h4⟩ := ge h4
      obtain ⟨hj, h5⟩ := ge h5
      rw [kdl hi] at h1; rw [kdl hj] at h2
      rw [gσ hi] at h6; rw [gσ hj]
      exact en.ne i j t t' a h1 h2 h3 h4 h5 h6
    · rw [← he0]
      unfold L2.start
      simp only [List.length_append, List.length_map, List.length_replicate]
      omega
  -- the call's end
  have hcall : pg.callN KK (n + 1) f ds = endOf d.fi.io (exSs (pr pg KK n) KK d.body e0) := by
    show (match pg.defs[f]? with
      | none => C.bad
      | some d => if ds.length = d.fi.kd.length then endOf d.fi.io (exSs (pg.prOf (pg.callN KK n)) KK d.body (ds.map some ++ List.replicate d.more.length none)) else .bad) = _
    rw [hf]
    simp only
    rw [if_pos (by rw [hdl, hvl]), he0]
  rw [hcall] at hc
  refine ⟨rdS g (Bl.mk' ⟨N, d.fi.kd ++ d.more, C8.fnScope st⟩) ⟨[⟨Ms (kdf d.fi.kd) (vs.map some) (ds.map some), F, H⟩], mPar 0 d.fi.kd, L2.start N vs, d.fi.kd.length, H⟩ d.fi.own (exSs (pr pg KK n) KK d.body), chkSs_ok X0 xs d.body _ _ _ rfl rfl hck, F, e0, ⟨en0, fun b hb => ?_, fun _ _ => rfl, fun i t a h1 h2 h3 h4 => ?_, fun _ h => h⟩, ?_⟩
  · rcases List.mem_cons.mp hb with rfl | hb
    · exact ⟨Stp.refl en.fd, fun a z => .inl (ms a z)⟩
    · cases hb
  · obtain ⟨hi, _⟩ := ge h3
    exact absurd hi (Nat.not_lt.mpr h2)
  · -- what the body leaves
    have fin : ∀ (t : D) (e' : Ev) (σ' : L2.St) (F' : Addr → Prop) (H' : Hp) (v : V), GoodC d.fi g F H vs ds Q (.ok t (outsOf d.fi.io e')) → SI g (Bl.mk' ⟨N, d.fi.kd ++ d.more, C8.fnScope st⟩) ⟨[⟨Ms (kdf d.fi.kd) (vs.map some) (ds.map some), F, H⟩], mPar 0 d.fi.kd, L2.start N vs, d.fi.kd.length, H⟩ σ' e' F' H' → RV d.fi.own g H F' H' v t → Q v H' := fun t e' σ' F' H' v hq si r => by
      have stp := (si.fr _ List.mem_cons_self).1
      have iol : d.fi.io.length = d.fi.kd.length := by unfold Fi.io; rw [List.length_map]
      have og : ∀ {j : Nat} {t : D}, get (outsOf d.fi.io e') j = some t → d.fi.kd[j]? = some Kd.m ∧ get e' j = some t := fun {j t} h => by
        rw [outs_get] at h
        split at h
        · rename_i hio
          refine ⟨?_, h⟩
          unfold Fi.io at hio
          rw [List.getElem?_map] at hio
          obtain ⟨k, hk, e1⟩ := Option.map_eq_some_iff.mp hio
          cases k <;> first | (cases e1; done) | exact hk
        · cases h
      have km : ∀ {j : Nat}, d.fi.kd[j]? = some Kd.m → j < d.fi.kd.length ∧ kdf d.fi.kd j = .m ∧ Bl.mk' ⟨N, d.fi.kd ++ d.more, C8.fnScope st⟩ j = .m ∧ σ'[j]? = (vs.map some)[j]? := fun {j} hk => by
        have hj := lt_of_get hk
        have h1 : kdf d.fi.kd j = .m := by
          unfold kdf
          rw [List.getD_eq_getElem?_getD, hk]; rfl
        refine ⟨hj, h1, by rw [kdl hj]; exact h1, ?_⟩
        have h2 := si.gd j (by have := mPar_in (i := 0) hk; rw [Nat.zero_add] at this; exact this)
        rw [h2]
        exact gσ hj
      have nk : ∀ {j : Nat} {t : D}, get (outsOf d.fi.io e') j = some t → kdf d.fi.kd j ≠ .m → False := fun {j t} h hk => hk (km (og h).1).2.1
      refine hq F' H' v (outsOf d.fi.io e') (by rw [outs_len, iol, hvl]) ⟨stp, ⟨si.en.fd, fun j t h1 h2 => (nk h2 (by rw [h1]; decide)).elim, fun j t h1 h2 => ?_, fun j t h1 h2 => (nk h2 (by rw [h1]; decide)).elim, fun i j t t' a h1 h2 h3 h4 h5 h6 h7 => ?_, by rw [outs_len, iol, List.length_map, hvl]; exact Nat.le_refl _⟩, fun j t h1 h2 => ?_⟩ outs_twice r
      · obtain ⟨h3, h4⟩ := og h2
        obtain ⟨_, _, h5, h6⟩ := km h3
        rw [← h6]
        exact si.en.m j t h5 h4
      · obtain ⟨k1, k2⟩ := og h4
        obtain ⟨k3, k4⟩ := og h5
        obtain ⟨_, _, m1, m2⟩ := km k1
        obtain ⟨_, _, m3, m4⟩ := km k3
        rw [← m2] at h6; rw [← m4] at h7
        exact si.en.ne i j t t' a m1 m3 h3 k2 k4 h6 h7
      · obtain ⟨h3, h4⟩ := og h2
        obtain ⟨hj, h5, _, _⟩ := km h3
        have hj' : j < ds.length := by rw [hdl, hvl]; exact hj
        exact ⟨ds[j], get_map.mpr (List.getElem?_eq_getElem hj'), fun hb => by rw [h5] at hb; cases hb⟩
    rcases R_cases (exSs (pr pg KK n) KK d.body e0) with ⟨fl, e1, h1⟩ | ⟨_, e1, h1⟩ | h1 <;> rw [h1] at hc ⊢
    · cases fl with
      | next => exact fun σ' F' H' si => fin .non e1 σ' F' H' .non hc si (by unfold RV; rw [if_neg (by simp [D.isM])]; exact .non)
      | ret t => exact fun σ' F' H' v si r => fin t e1 σ' F' H' v hc si r
      | brk => exact hc.elim
      | cont => exact hc.elim
    · exact hc.elim
    · exact hc.elim
theorem fresh0 {s : Shared} {H : Hp} {A : Around} {outer : List Env} (e0 : Env0 P w K mg base A outer s H) : ∃ p, H p = none := ⟨s.heap.objs.size, e0.hok.fresh (Nat.le_refl _)⟩
theorem def_both (hs : Gs T pg g q K mg) (hD : ∀ f d, pg.defs[f]? = some d → ∃ x qual st N, C8.Fun K x qual st (q.fa f) (q.fd f) ∧ chkD T pg d N (q.fp f) st = true) :
    ∀ n, (∀ f d, pg.defs[f]? = some d → FnOk P w K mg base C8.CX0 (3 * n) (q.fa f) (q.fd f) (q.fp f) (spOf g d.fi (pg.callN KK n f))) ∧
      (∀ C m f, (pg.stats.getD C []).lookup m = some f → StF K (g.ca C) m (q.fa f) ∧ ∃ d0, pg.defs[f]? = some d0 ∧ (∀ k ∈ d0.fi.kd, k = .n) ∧ FnR P w K mg base C8.CX0 (3 * n) (q.fa f) (spSt g d0.fi (pg.callN KK n f)))
  | 0 => ⟨fun f d hf => ⟨fun vs H Q E h => by
      obtain ⟨_, F, ds, _, _, h⟩ := h
      exact h.elim, fun A outer s H args us vs Q E _ _ _ _ h => by
      obtain ⟨_, F, ds, _, _, h⟩ := h
      exact h.elim⟩, fun C m f hl => by
      obtain ⟨k1, d0, pv, k2, k3, _⟩ := hs.st C m f hl
      refine ⟨k1, d0, k2, k3, fun A outer s H us vs Q E _ e0 _ h => ?_⟩
      obtain ⟨p, hp⟩ := fresh0 e0
      obtain ⟨_, F, ds, _, _, h⟩ := h.2 p hp
      exact h.elim⟩
  | n + 1 => by
    obtain ⟨ih, ihs⟩ := def_both hs hD n
    refine ⟨fun f d hf => ?_, fun C m f hl => ?_⟩
    · obtain ⟨x, qual, st, N, hfun, hchk⟩ := hD f d hf
      unfold chkD at hchk
      simp only [Bool.and_eq_true, decide_eq_true_eq] at hchk
      obtain ⟨⟨⟨hsc, hN⟩, hps⟩, hck⟩ := hchk
      have FS := C8.fnScope_by hsc
      show FnOk P w K mg base C8.CX0 (3 * n + 2 + 1) (q.fa f) (q.fd f) (q.fp f) _
      exact C8.fn0 hfun FS (fun vs H Q E h => by rw [hps]; exact h.1) (body_ok hs hf hN hps hck FS ih ihs)
    · obtain ⟨k1, d0, pv, hf, k3, hpv, hb⟩ := hs.st C m f hl
      refine ⟨k1, d0, hf, k3, ?_⟩
      obtain ⟨x, qual, st, N, hfun, hchk⟩ := hD f d0 hf
      unfold chkD at hchk
      simp only [Bool.and_eq_true, decide_eq_true_eq] at hchk
      obtain ⟨⟨⟨hsc, hN⟩, hps⟩, hck⟩ := hchk
      have FS := C8.fnScope_by hsc
      have bd := body_ok (KK := KK) (P := P) (w := w) (base := base) hs hf hN hps hck FS ih ihs (qual := qual)
      obtain ⟨oc, od, dV, kV, doc, pm, an, cdv, ct, osl, efd, lk, hcd⟩ := hfun.ex
      rw [efd] at lk hb
      rw [hpv] at FS
      refine FnR.imp (StX.fn_star (k := 3 * n + 2) (ps := []) (pv := pv) lk hcd FS StX.cxUp_none (fun us rest hl => ?_) fun A outer s H vs Q E hr hsp => ?_) (sp := fun vs H Q E => ∃ ws rest, vs = ws ++ rest ∧ ws.length = ([] : List Str).length ∧ rest.length ≤ sizeLine ∧ ∀ p, H p = Option.none → spOf g d0.fi (pg.callN KK (n + 1) f) (ws ++ [V.ref p]) (upd H p (.tup rest)) Q E) fun vs H Q E h => ⟨[], vs, rfl, rfl, h.1, h.2⟩
      · have : us = [] := List.length_eq_zero_iff.mp hl
        subst this
        exact hb rest
      · obtain ⟨t, ht, hq⟩ := bd cdv A outer s H vs Q E hr hsp
        exact ⟨t, ht.nox, hq⟩
theorem def_ok (hs : Gs T pg g q K mg) (hD : ∀ f d, pg.defs[f]? = some d → ∃ x qual st N, C8.Fun K x qual st (q.fa f) (q.fd f) ∧ chkD T pg d N (q.fp f) st = true) (n f : Nat) (d : Df) (hf : pg.defs[f]? = some d) : FnOk P w K mg base C8.CX0 (3 * n) (q.fa f) (q.fd f) (q.fp f) (spOf g d.fi (pg.callN KK n f)) := (def_both hs hD n).1 f d hf
end
end TE
/-! Te30: a law's own promise. -/
namespace TE
open PySem L2
def spLaw (K : PySem.W.Frag) : Sp := fun vs H Q _ => ∃ (a : Addr) (ns : List Int), vs = [.ref a] ∧ ns.length ≤ 63 ∧ Only H ∧ SqL K H a (ns.map V.int) ∧ ∀ H', Q (.bl true) H'
theorem sqF_of {K : PySem.W.Frag} {H : Hp} {a : Addr} {xs : List V} (o : Only H) (h : SqL K H a xs) : SqF K H a xs := by
  rcases h with (h | h) | h
  · rcases o a with z | ⟨_, _, z⟩ <;> (rw [h] at z; cases z)
  · exact .inl h
  · exact .inr h
section
variable {T : Tb} {pg : Pg} {g : G} {q : Q9} {KK n : Nat} {P : Program} {w : World} {K : PySem.W.Frag} {mg : Str → Option Value} {base : Heap} {x : Str}
theorem law_ok (hs : Gs T pg g q K mg) (hD : ∀ f d, pg.defs[f]? = some d → ∃ x qual st N, C8.Fun K x qual st (q.fa f) (q.fd f) ∧ chkD T pg d N (q.fp f) st = true)
    {d0 : Df} (h0 : pg.defs[0]? = some d0) (hk : d0.fi.kd = [.n]) (hp : q.fp 0 = [x]) (plain : ∀ ns : List Int, ns.length ≤ 63 → ∃ outs, pg.callN KK n 0 [.scr ns] = .ok (.bl true) outs) :
    FnOk P w K mg base C8.CX0 (3 * n) (q.fa 0) (q.fd 0) [x] (spLaw K) := by
  have F := def_ok (KK := KK) (P := P) (w := w) (base := base) hs hD n 0 d0 h0
  rw [hp] at F
  refine F.imp fun vs H Q E h => ?_
  obtain ⟨a, ns, rfl, hl, ho, hq, k⟩ := h
  obtain ⟨outs, hc⟩ := plain ns hl
  refine ⟨by rw [hk]; rfl, fun _ => False, [.scr ns], rfl, ⟨fun _ z => z.elim, fun i d h1 h2 => ?_, fun i d h1 h2 => ?_, fun i d h1 h2 => ?_, fun i j d d' p h1 h2 h3 h4 h5 => ?_, Nat.le_refl _⟩, ?_⟩
  · have := get_map.mp h2
    cases i with
    | zero =>
      simp only [List.getElem?_cons_zero, Option.some.injEq] at this
      subst this
      exact ⟨.ref a, rfl, .scr (hs.hK ▸ sqF_of ho hq)⟩
    | succ i => simp at this
  · have := get_map.mp h2
    cases i with
    | zero => rw [hk] at h1; cases h1
    | succ i => simp at this
  · have := get_map.mp h2
    cases i with
    | zero => rw [hk] at h1; cases h1
    | succ i => simp at this
  · have := get_map.mp h4
    cases i with
    | zero => rw [hk] at h1; cases h1
    | succ i => simp at this
  · rw [hc]
    intro F' H' v e' _ _ _ r
    have hv : v = .bl true := by
      unfold RV at r
      rw [if_neg (by simp [D.isM])] at r
      cases r; rfl
    rw [hv]; exact k H'
end
/-- the head's end for a law whose promise is spLaw -/
theorem law_walk {l : PySem.W.OpenLaw} {k : Nat} {q : Program} {loose : List Str} {XP : (Str → Option Value) → Heap → Prop} {YP : World → Heap → Prop} {d : DefRec} {K : Params → PySem.W.Frag} {x : Str} (hn : l.most = some 63) (hdf : d.params.defaults = []) (hr : Room k callerA)
    (hY : ∀ (w : World) (h : Heap), YP w h → (K w.params).In h)
    (F : ∀ (w : World) (mg : Str → Option Value) (fa : Addr) (h : Heap), (K w.params).In h → h.Ns mainGlobals mg → mg d.name = some (.ref fa) →
      ∃ fd : FuncData, (∀ (s : Shared) (u : Value), BindsTo s fd ⟨[u], []⟩ [(x, u)]) ∧ ∀ base : Heap, (K w.params).In base → base.Ns mainGlobals mg → FnOk l.prog w (K w.params) mg base C8.CX0 k fa fd [x] (spLaw (K w.params))) :
    PySem.W.WalkO q loose XP YP l.row.toRowW d [] (fun f vs => PySem.call f vs) :=
  L2.walk_of (n := 63) (k := k) (x := x) (CX := fun _ => C8.CX0) (sp := fun w => spLaw (K w.params)) hn (by decide) hdf hr hY F (fun _ H a ns hl ho hS => ⟨a, ns, rfl, hl, ho, hS, fun _ => rfl⟩) fun _ _ _ _ _ z => z
end TE
/-! Te31: own classes, from what the head can tell of them. -/
namespace TE
open PySem L2
/-- what k_is finds of a class -/
structure ClF (K : PySem.W.Frag) (C : Addr) : Prop where
  pg : PySem.W.plainGet K C Str.empty = true
  hd : PySem.W.hasDictIn K C = true
  po : PySem.W.plainOver K C = true
  sa : PySem.W.findIn K (.ref C) "__setattr__" = some (some (.builtin "object.__setattr__"))
  ha : PySem.W.findIn K (.ref C) "__class__" = some (some (.builtin "object.__class__"))
  hm : PySem.W.mroIn K C (.type "object") = some true
  ty : PySem.W.typeIn K (.ref C) = some (.type "type")
  me : PySem.W.mroIn K C (.ref C) = some true
  m1 : PySem.W.mroIn K C (.type "int") = some false
  m2 : PySem.W.mroIn K C (.type "bool") = some false
  m3 : PySem.W.mroIn K C (.type "str") = some false
  m4 : PySem.W.mroIn K C (.type "list") = some false
  m5 : PySem.W.mroIn K C (.type "tuple") = some false
  m6 : PySem.W.mroIn K C (.type "dict") = some false
  m7 : PySem.W.mroIn K C (.type "NoneType") = some false
theorem cls_some {K : PySem.W.Frag} {C : Addr} {b : Value} {r : Bool} (h : PySem.W.mroIn K C b = some r) : (PySem.W.clsIn K C).isSome = true := by
  unfold PySem.W.mroIn at h
  obtain ⟨cd, a, _⟩ := Option.bind_eq_some_iff.mp h
  rw [a]; rfl
theorem ClF.no {K : PySem.W.Frag} {C : Addr} (c : ClF K C) : ∀ t : Ty, PySem.W.kitOne K (.ref C) (.type (tyN t)) = some false := fun t => by
  have key : ∀ s : String, PySem.W.kitMeta s = true → PySem.W.mroIn K C (.type s) = some false → PySem.W.kitOne K (.ref C) (.type s) = some false := fun s h1 h2 => by
    unfold PySem.W.kitOne
    have e : (Value.ref C == Value.type s) = false := rfl
    rw [e, if_neg (by decide)]
    unfold PySem.W.kitCls
    show (if PySem.W.kitMeta s = true then PySem.W.subIn K (.ref C) (.type s) else none) = _
    rw [if_pos h1]
    exact h2
  cases t
  · exact key _ (by decide +kernel) c.m1
  · exact key _ (by decide +kernel) c.m2
  · exact key _ (by decide +kernel) c.m3
  · exact key _ (by decide +kernel) c.m4
  · exact key _ (by decide +kernel) c.m5
  · exact key _ (by decide +kernel) c.m6
  · exact key _ (by decide +kernel) c.m7
theorem ClF.sub {K : PySem.W.Frag} {C : Addr} (c : ClF K C) {t : Value} {r : Bool} (hn : (t == Value.ref C) = false) (h : PySem.W.subIn K t (.ref C) = some r) : PySem.W.kitOne K t (.ref C) = some r := by
  unfold PySem.W.kitOne
  rw [hn, if_neg (by decide)]
  unfold PySem.W.kitCls
  show (if ((PySem.W.clsIn K C).isSome && PySem.W.typeIn K (.ref C) == some (.type "type")) = true then PySem.W.subIn K t (.ref C) else none) = _
  rw [cls_some c.hm, c.ty, if_pos (by decide +kernel)]
  exact h
theorem ClF.of {K : PySem.W.Frag} {C : Addr} (c : ClF K C) : ∀ t : Ty, PySem.W.kitOne K (.type (tyN t)) (.ref C) = some false := fun t => by
  refine c.sub rfl ?_
  cases t <;> rfl
theorem ClF.two {K : PySem.W.Frag} {C C' : Addr} (c : ClF K C) (c' : ClF K C') (h : PySem.W.mroIn K C' (.ref C) = some false) : PySem.W.kitOne K (.ref C') (.ref C) = some false := by
  have hne : C' ≠ C := fun z => by
    have := c'.me
    rw [z] at this h
    rw [this] at h; cases h
  exact c.sub (beq_eq_false_iff_ne.mpr fun z => hne (by cases z; rfl)) h
theorem kit_self {K : PySem.W.Frag} {v : Value} (h : (v == v) = true) : PySem.W.kitOne K v v = some true := by
  unfold PySem.W.kitOne
  rw [h, if_pos rfl]
theorem ClF.own {g : G} {C : Nat} (c : ClF g.K (g.ca C)) (hn : PySem.W.specialIn g.K (.builtin "object.__class__") "__get__" = some (some (.builtin "getset_descriptor.__get__"))) (htk : PySem.W.takesIn g.K (.builtin "object.__class__") = some true) : OwnCl g C :=
  ⟨⟨c.pg, c.hd, c.po, c.sa⟩, c.ha, hn, htk, c.hm, c.no, c.of⟩
/-- all of them, by the list of their addresses -/
theorem own_all {g : G} {n : Nat} (hn : PySem.W.specialIn g.K (.builtin "object.__class__") "__get__" = some (some (.builtin "getset_descriptor.__get__"))) (htk : PySem.W.takesIn g.K (.builtin "object.__class__") = some true)
    (one : ∀ C, C < n → ClF g.K (g.ca C)) (two : ∀ C C', C < n → C' < n → C ≠ C' → PySem.W.mroIn g.K (g.ca C) (.ref (g.ca C')) = some false) : OwnAll g n := by
  refine ⟨fun C h => (one C h).own hn htk, fun C C' h h' => ?_⟩
  by_cases e : C = C'
  · subst e
    rw [kit_self (beq_self_eq_true _)]
    simp
  · rw [(one C' h').two (one C h) (two C C' h h' e)]
    simp [e]
end TE
/-! Te32: small helpers of the head: what a call binds, lists looked through. -/
namespace TE
open PySem L2
theorem fun_of {K : PySem.W.Frag} {x qual : Str} {st : Stmt} {f : Addr} {oc : Value} {od : Option Addr} {dV kV dc pm : Value} {an : Option Addr} {cd ct : Value} {sl : Array (Option Value)}
    (l : K.lookup f = some ⟨oc, od, .func (PySem.W.fnOf x qual (C8.fnArgs st) (C8.fnBody st) (C8.fnScope st) dV kV dc pm an cd ct), sl⟩) (c : PySem.W.codeIn K cd qual = true) :
    C8.Fun K x qual st f (PySem.W.fnOf x qual (C8.fnArgs st) (C8.fnBody st) (C8.fnScope st) dV kV dc pm an cd ct) :=
  ⟨⟨oc, od, dV, kV, dc, pm, an, cd, ct, sl, rfl, l, c⟩⟩
def pickU : List (Nat ⊕ (Nat × D)) → (Nat → Value) → List Value → List Value
  | [], _, _ => []
  | .inl j :: r, dv, ws => ws.getD j .none :: pickU r dv ws
  | .inr (j, _) :: r, dv, ws => dv j :: pickU r dv ws
theorem vals_getD : ∀ {vs : List V} {us : List Value}, Vals vs us → ∀ j, RelV (vs.getD j .non) (us.getD j .none)
  | [], _, r, j => by cases r; exact rfl
  | v :: vs, _, r, 0 => by cases r with | cons h t => exact h
  | v :: vs, _, r, j + 1 => by cases r with | cons h t => exact vals_getD t j
theorem vals_headD {vs : List V} {us : List Value} (r : Vals vs us) : RelV (vs.headD .non) (us.headD .none) := by
  cases r with
  | nil => exact rfl
  | cons h t => exact h
theorem vals_tail {vs : List V} {us : List Value} (r : Vals vs us) : Vals vs.tail us.tail := by
  cases r with
  | nil => exact .nil
  | cons h t => exact t
theorem pick_rel {dv : Nat → V} {dU : Nat → Value} (hd : ∀ j, RelV (dv j) (dU j)) : ∀ (sel : List (Nat ⊕ (Nat × D))) {vs : List V} {us : List Value}, Vals vs us → Vals (pickV sel dv vs) (pickU sel dU us)
  | [], _, _, _ => .nil
  | .inl j :: s, _, _, r => .cons (vals_getD r j) (pick_rel hd s r)
  | .inr (j, _) :: s, _, _, r => .cons (hd j) (pick_rel hd s r)
section
variable {K : PySem.W.Frag} {fd : FuncData} {ps ks : List Str} {n m : Nat} {sel : List (Nat ⊕ (Nat × D))} {dvs : List V} {its : List Value} {T : Addr} {o : Obj}
theorem kb0 (h : ∀ us ws : List Value, us.length = n → ws.length = ks.length → bindArgs fd ⟨us, ks.zip ws⟩ = pure (ps.zip (pickU sel (fun _ => .none) (us ++ ws)))) :
    KBn K fd ps n ks (fun us ws => pickU sel (fun _ => .none) (us ++ ws)) (fun vs zs => pickV sel (fun _ => .non) (vs ++ zs)) :=
  ⟨fun _ us ws _ l1 l2 => .of_eq (h us ws l1 l2), fun r z => pick_rel (dv := fun _ => .non) (dU := fun _ => .none) (fun _ => rfl) sel (r.append z)⟩
theorem ki0 (h : ∀ us ws : List Value, us.length = n + 1 → ws.length = ks.length → bindArgs fd ⟨us, ks.zip ws⟩ = pure (ps.zip (us.headD .none :: pickU sel (fun _ => .none) (us.tail ++ ws)))) :
    KBn K fd ps (n + 1) ks (fun us ws => us.headD .none :: pickU sel (fun _ => .none) (us.tail ++ ws)) (fun vs zs => vs.headD .non :: pickV sel (fun _ => .non) (vs.tail ++ zs)) :=
  ⟨fun _ us ws _ l1 l2 => .of_eq (h us ws l1 l2), fun r z => .cons (vals_headD r) (pick_rel (dv := fun _ => .non) (dU := fun _ => .none) (fun _ => rfl) sel ((vals_tail r).append z))⟩
theorem kb1 (lT : K.lookup T = some o) (oT : o.data = .seq its.toArray m) (rT : Vals dvs its)
    (h : ∀ us ws : List Value, us.length = n → ws.length = ks.length → ∃ k, bindArgs fd ⟨us, ks.zip ws⟩ = seqItems? (.ref T) >>= k ∧ k (some its.toArray) = pure (ps.zip (pickU sel (fun j => its.getD j .none) (us ++ ws)))) :
    KBn K fd ps n ks (fun us ws => pickU sel (fun j => its.getD j .none) (us ++ ws)) (fun vs zs => pickV sel (fun j => dvs.getD j .non) (vs ++ zs)) :=
  ⟨fun _ us ws X l1 l2 => by
    obtain ⟨k, e1, e2⟩ := h us ws l1 l2
    refine BindsTo.of_looks fun M => ?_
    rw [e1]
    exact looks_items X lT oT (.of_pure e2), fun r z => pick_rel (fun j => vals_getD rT j) sel (r.append z)⟩
theorem ki1 (lT : K.lookup T = some o) (oT : o.data = .seq its.toArray m) (rT : Vals dvs its)
    (h : ∀ us ws : List Value, us.length = n + 1 → ws.length = ks.length → ∃ k, bindArgs fd ⟨us, ks.zip ws⟩ = seqItems? (.ref T) >>= k ∧ k (some its.toArray) = pure (ps.zip (us.headD .none :: pickU sel (fun j => its.getD j .none) (us.tail ++ ws)))) :
    KBn K fd ps (n + 1) ks (fun us ws => us.headD .none :: pickU sel (fun j => its.getD j .none) (us.tail ++ ws)) (fun vs zs => vs.headD .non :: pickV sel (fun j => dvs.getD j .non) (vs.tail ++ zs)) :=
  ⟨fun _ us ws X l1 l2 => by
    obtain ⟨k, e1, e2⟩ := h us ws l1 l2
    refine BindsTo.of_looks fun M => ?_
    rw [e1]
    exact looks_items X lT oT (.of_pure e2), fun r z => .cons (vals_headD r) (pick_rel (fun j => vals_getD rT j) sel ((vals_tail r).append z))⟩
end
/-! ### lists looked through -/
theorem all_nil {α : Type} {P : α → Prop} : ∀ p ∈ ([] : List α), P p := fun _ h => by cases h
theorem all_cons {α : Type} {P : α → Prop} {a : α} {l : List α} (h : P a) (t : ∀ p ∈ l, P p) : ∀ p ∈ a :: l, P p := fun p hp => by
  rcases List.mem_cons.mp hp with rfl | hp
  · exact h
  · exact t p hp
theorem lk_all {P : Str → Nat → Prop} {x : Str} {f : Nat} : ∀ {l : List (Str × Nat)}, (∀ p ∈ l, P p.1 p.2) → l.lookup x = some f → P x f
  | [], _, h => by cases h
  | (y, n) :: l, ha, h => by
    rw [List.lookup_cons] at h
    split at h
    · rename_i e
      have := ha _ (List.mem_cons_self ..)
      cases h
      rw [beq_iff_eq.mp e]; exact this
    · exact lk_all (fun p hp => ha p (List.mem_cons_of_mem _ hp)) h
theorem ct_all {P : Str → Prop} {x : Str} {l : List Str} (ha : ∀ p ∈ l, P p) (h : l.contains x = true) : P x := ha x (by simpa using h)
end TE
/-! Tp1: how what the small language computes is looked at: ends that are fine and what holds of them. -/
namespace TE
open PySem L2
def R.Ok {α : Type} (r : R α) (Q : α → Ev → Prop) : Prop := ∃ a e, r = .ok a e ∧ Q a e
def C.Ok (c : C) (Q : D → Ev → Prop) : Prop := ∃ d o, c = .ok d o ∧ Q d o
section
variable {α β : Type}
theorem R.ok_ok {a : α} {e : Ev} {Q : α → Ev → Prop} : (R.ok a e).Ok Q ↔ Q a e := ⟨fun ⟨_, _, h, q⟩ => by cases h; exact q, fun q => ⟨_, _, rfl, q⟩⟩
theorem R.ok_bad {Q : α → Ev → Prop} : (R.bad).Ok Q ↔ False := ⟨fun ⟨_, _, h, q⟩ => (by cases h), fun h => False.elim h⟩
theorem R.ok_bind {r : R α} {f : α → Ev → R β} {Q : β → Ev → Prop} : (r.bind f).Ok Q ↔ r.Ok fun a e => (f a e).Ok Q := by
  cases r with
  | ok a e => simp only [R.bind, R.ok_ok]
  | err x e => constructor <;> (rintro ⟨_, _, h, _⟩; cases h)
  | bad => constructor <;> (rintro ⟨_, _, h, _⟩; cases h)
theorem R.ok_ofO {a : α} {e : Ev} {Q : α → Ev → Prop} : (R.ofO (some a) e).Ok Q ↔ Q a e := R.ok_ok
theorem R.ok_ofO' {o : Option α} {e : Ev} {Q : α → Ev → Prop} : (R.ofO o e).Ok Q ↔ ∃ a, o = some a ∧ Q a e := by
  cases o with
  | none => exact ⟨fun ⟨_, _, h, _⟩ => (by cases h), fun ⟨_, h, _⟩ => by cases h⟩
  | some a => exact ⟨fun h => ⟨a, rfl, R.ok_ok.mp h⟩, fun ⟨_, h, q⟩ => by cases h; exact R.ok_ok.mpr q⟩
theorem R.Ok.imp {r : R α} {P Q : α → Ev → Prop} (h : r.Ok P) (k : ∀ a e, P a e → Q a e) : r.Ok Q := by
  obtain ⟨a, e, h1, h2⟩ := h
  exact ⟨a, e, h1, k _ _ h2⟩
theorem C.Ok.imp {c : C} {P Q : D → Ev → Prop} (h : c.Ok P) (k : ∀ d o, P d o → Q d o) : c.Ok Q := by
  obtain ⟨a, e, h1, h2⟩ := h
  exact ⟨a, e, h1, k _ _ h2⟩
theorem C.ok_ok {d : D} {o : Ev} {Q : D → Ev → Prop} : (C.ok d o).Ok Q ↔ Q d o := ⟨fun ⟨_, _, h, q⟩ => by cases h; exact q, fun q => ⟨_, _, rfl, q⟩⟩
theorem ok_fin {io : List Bool} {es : List E} {e : Ev} {c : C} {Q : D → Ev → Prop} : (fin io es e c).Ok Q ↔ c.Ok fun d o => Q d (back io es o e) := by
  cases c with
  | ok d o => exact ⟨fun h => C.ok_ok.mpr (R.ok_ok.mp h), fun h => R.ok_ok.mpr ((C.ok_ok (Q := fun d o => Q d (back io es o e))).mp h)⟩
  | err x => constructor <;> (rintro ⟨_, _, h, _⟩; cases h)
  | bad => constructor <;> (rintro ⟨_, _, h, _⟩; cases h)
end
theorem get_c0 {x : Option D} {e : Ev} : get (x :: e) 0 = x := by cases x <;> rfl
theorem get_cs {x : Option D} {e : Ev} {i : Nat} : get (x :: e) (i + 1) = get e i := rfl
/-! ### loops -/
theorem forL_ok {gd : Ev → Bool} {tg : Tg} {body : Ev → R Fl} {Q : Fl → Ev → Prop} (I : List D → Ev → Prop)
    (step : ∀ x xs e, I (x :: xs) e → gd e = true ∧ ∃ e1, setT tg x e = some e1 ∧ (body e1).Ok (fun f e2 => match f with
      | .next => I xs e2
      | .cont => I xs e2
      | .brk => Q .next e2
      | .ret d => Q (.ret d) e2))
    (fin : ∀ e, I [] e → gd e = true ∧ Q .next e) : ∀ xs e, I xs e → (forL gd tg body xs e).Ok Q
  | [], e, h => by
    obtain ⟨h1, h2⟩ := fin e h
    unfold forL
    rw [if_pos h1]
    exact R.ok_ok.mpr h2
  | x :: xs, e, h => by
    obtain ⟨h1, e1, h2, a, e2, h3, h4⟩ := step x xs e h
    unfold forL
    rw [if_pos h1, h2]
    simp only [h3, R.bind]
    cases a with
    | next => exact forL_ok I step fin xs e2 h4
    | cont => exact forL_ok I step fin xs e2 h4
    | brk => exact R.ok_ok.mpr h4
    | ret d => exact R.ok_ok.mpr h4
theorem lcL_ok {gd : Ev → Bool} {own : List Nat} {tg : Tg} {test : Ev → R Bool} {elt : Ev → R D} {Q : List D → Ev → Prop} (I : List D → Ev → List D → Prop)
    (step : ∀ x xs e acc, I (x :: xs) e acc → gd e = true ∧ ∃ e1, setT tg x e = some e1 ∧ (test e1).Ok (fun b e2 => if b = true then (elt e2).Ok (fun d e3 => small acc.length = true ∧ I xs (wipeE e3 own) (acc ++ [d])) else I xs (wipeE e2 own) acc))
    (fin : ∀ e acc, I [] e acc → gd e = true ∧ Q acc e) : ∀ xs e acc, I xs e acc → (lcL gd own tg test elt xs e acc).Ok Q
  | [], e, acc, h => by
    obtain ⟨h1, h2⟩ := fin e acc h
    unfold lcL
    rw [if_pos h1]
    exact R.ok_ok.mpr h2
  | x :: xs, e, acc, h => by
    obtain ⟨h1, e1, h2, b, e2, h3, h4⟩ := step x xs e acc h
    unfold lcL
    rw [if_pos h1, h2]
    simp only [h3, R.bind]
    cases b with
    | false =>
      rw [if_neg (by decide)] at h4
      exact lcL_ok I step fin xs _ acc h4
    | true =>
      rw [if_pos rfl] at h4
      obtain ⟨d, e3, h5, h6, h7⟩ := h4
      simp only [h5, R.bind, h6, if_true]
      exact lcL_ok I step fin xs _ _ h7
/-! ### defs -/
def endQ (io : List Bool) (Q : D → Ev → Prop) : Fl → Ev → Prop
  | .ret d, e => Q d (outsOf io e)
  | .next, e => Q .non (outsOf io e)
  | _, _ => False
theorem callN_ok {pg : Pg} {KK n f : Nat} {d : Df} {ds : List D} {Q : D → Ev → Prop} (h : pg.defs[f]? = some d) (hl : ds.length = d.fi.kd.length)
    (hb : (exSs (pg.prOf (pg.callN KK n)) KK d.body (ds.map some ++ List.replicate d.more.length none)).Ok (endQ d.fi.io Q)) : (pg.callN KK (n + 1) f ds).Ok Q := by
  obtain ⟨fl, e, h1, h2⟩ := hb
  unfold Pg.callN
  rw [h]
  simp only
  rw [if_pos hl, h1]
  cases fl with
  | next => exact C.ok_ok.mpr h2
  | ret d => exact C.ok_ok.mpr h2
  | brk => exact h2.elim
  | cont => exact h2.elim
theorem pr_call {pg : Pg} {c : Nat → List D → C} : (pg.prOf c).call = c := rfl
theorem pr_fi {pg : Pg} {c : Nat → List D → C} : (pg.prOf c).fi = pg.fiOf := rfl
theorem fiOf_eq {pg : Pg} {f : Nat} {d : Df} (h : pg.defs[f]? = some d) : pg.fiOf f = d.fi := by unfold Pg.fiOf; rw [h]
theorem ok_iff {α : Type} {r : R α} {P Q : α → Ev → Prop} (h : ∀ a e, P a e ↔ Q a e) : r.Ok P ↔ r.Ok Q := ⟨fun k => k.imp fun a e => (h a e).mp, fun k => k.imp fun a e => (h a e).mpr⟩
theorem cok_iff {r : C} {P Q : D → Ev → Prop} (h : ∀ a e, P a e ↔ Q a e) : r.Ok P ↔ r.Ok Q := ⟨fun k => k.imp fun a e => (h a e).mp, fun k => k.imp fun a e => (h a e).mpr⟩
theorem ok_ite {α : Type} {c : Prop} [Decidable c] {r s : R α} {Q : α → Ev → Prop} : (if c then r else s).Ok Q ↔ if c then r.Ok Q else s.Ok Q := by split <;> rfl
/-! ### names are read late -/
theorem late_k {d : D} {es : List E} {d0 : D} {ds : List D} {e : Ev} : late (.k d :: es) (d0 :: ds) e = (late es ds e).map (d0 :: ·) := rfl
theorem late_op {o : P} {as : List E} {es : List E} {d0 : D} {ds : List D} {e : Ev} : late (.op o as :: es) (d0 :: ds) e = (late es ds e).map (d0 :: ·) := rfl
theorem late_and_ {a b : E} {es : List E} {d0 : D} {ds : List D} {e : Ev} : late (.and_ a b :: es) (d0 :: ds) e = (late es ds e).map (d0 :: ·) := rfl
theorem late_or_ {a b : E} {es : List E} {d0 : D} {ds : List D} {e : Ev} : late (.or_ a b :: es) (d0 :: ds) e = (late es ds e).map (d0 :: ·) := rfl
theorem late_not_ {a : E} {es : List E} {d0 : D} {ds : List D} {e : Ev} : late (.not_ a :: es) (d0 :: ds) e = (late es ds e).map (d0 :: ·) := rfl
theorem late_ite {c a b : E} {es : List E} {d0 : D} {ds : List D} {e : Ev} : late (.ite c a b :: es) (d0 :: ds) e = (late es ds e).map (d0 :: ·) := rfl
theorem late_chain {o q : P} {a b c : E} {es : List E} {d0 : D} {ds : List D} {e : Ev} : late (.chain o q a b c :: es) (d0 :: ds) e = (late es ds e).map (d0 :: ·) := rfl
theorem late_call {f : Nat} {as : List E} {dfl : List D} {es : List E} {d0 : D} {ds : List D} {e : Ev} : late (.call f as dfl :: es) (d0 :: ds) e = (late es ds e).map (d0 :: ·) := rfl
theorem late_fld {f : Str} {a : E} {es : List E} {d0 : D} {ds : List D} {e : Ev} : late (.fld f a :: es) (d0 :: ds) e = (late es ds e).map (d0 :: ·) := rfl
theorem late_met {m : Mt} {o : E} {as : List E} {es : List E} {d0 : D} {ds : List D} {e : Ev} : late (.met m o as :: es) (d0 :: ds) e = (late es ds e).map (d0 :: ·) := rfl
theorem late_sl {a : E} {lo hi : List E} {es : List E} {d0 : D} {ds : List D} {e : Ev} : late (.sl a lo hi :: es) (d0 :: ds) e = (late es ds e).map (d0 :: ·) := rfl
theorem late_lc {own : List Nat} {tg : Tg} {it : It} {ifs : List E} {elt : E} {es : List E} {d0 : D} {ds : List D} {e : Ev} : late (.lc own tg it ifs elt :: es) (d0 :: ds) e = (late es ds e).map (d0 :: ·) := rfl
theorem late_pop {i : Nat} {a : E} {es : List E} {d0 : D} {ds : List D} {e : Ev} : late (.pop i a :: es) (d0 :: ds) e = (late es ds e).map (d0 :: ·) := rfl
theorem late_mv {i : Nat} {es : List E} {d0 : D} {ds : List D} {e : Ev} : late (.mv i :: es) (d0 :: ds) e = (late es ds e).map (d0 :: ·) := rfl
theorem late_callK {s : Nat} {as : List E} {es : List E} {d0 : D} {ds : List D} {e : Ev} : late (.callK s as :: es) (d0 :: ds) e = (late es ds e).map (d0 :: ·) := rfl
theorem late_mkK {s C : Nat} {as : List E} {es : List E} {d0 : D} {ds : List D} {e : Ev} : late (.mkK s C as :: es) (d0 :: ds) e = (late es ds e).map (d0 :: ·) := rfl
theorem late_v {i : Nat} {es : List E} {d0 : D} {ds : List D} {e : Ev} : late (.v i :: es) (d0 :: ds) e = (get e i).bind fun d => (late es ds e).map (d :: ·) := rfl
theorem late_nil {e : Ev} : late [] [] e = some [] := rfl
section
variable {p : Pr} {e : Ev} {KK : Nat}
/-! ### expressions -/
theorem ok_v {i : Nat} {Q : D → Ev → Prop} : (evE p (.v i) e).Ok Q ↔ ∃ d, get e i = some d ∧ Q d e := by
  rw [evE, R.ok_ofO']
theorem ok_k {d : D} {Q : D → Ev → Prop} : (evE p (.k d) e).Ok Q ↔ Q d e := by
  rw [evE, R.ok_ok]
theorem ok_op {o : P} {es : List E} {Q : D → Ev → Prop} : (evE p (.op o es) e).Ok Q ↔ (evEs p es e).Ok fun ds e1 => ∃ ds', late es ds e1 = some ds' ∧ ∃ d, pD o ds' = some d ∧ Q d e1 := by
  rw [evE, R.ok_bind]
  refine ok_iff fun ds e1 => ?_
  cases late es ds e1 <;> simp [R.ok_bad, R.ok_ofO']
theorem ok_and {a b : E} {Q : D → Ev → Prop} : (evE p (.and_ a b) e).Ok Q ↔ (evE p a e).Ok fun d e1 => ∃ c, d = .bl c ∧ if c = true then (evE p b e1).Ok Q else Q (.bl false) e1 := by
  rw [evE, R.ok_bind]
  refine ok_iff fun d e1 => ?_
  cases d <;> simp [R.ok_bad]
  rename_i c
  cases c <;> simp [R.ok_ok]
theorem ok_or {a b : E} {Q : D → Ev → Prop} : (evE p (.or_ a b) e).Ok Q ↔ (evE p a e).Ok fun d e1 => ∃ c, d = .bl c ∧ if c = true then Q (.bl true) e1 else (evE p b e1).Ok Q := by
  rw [evE, R.ok_bind]
  refine ok_iff fun d e1 => ?_
  cases d <;> simp [R.ok_bad]
  rename_i c
  cases c <;> simp [R.ok_ok]
theorem ok_not {a : E} {Q : D → Ev → Prop} : (evE p (.not_ a) e).Ok Q ↔ (evE p a e).Ok fun d e1 => ∃ c, d = .bl c ∧ Q (.bl (!c)) e1 := by
  rw [evE, R.ok_bind]
  refine ok_iff fun d e1 => ?_
  cases d <;> simp [R.ok_bad, R.ok_ok]
theorem ok_if {c a b : E} {Q : D → Ev → Prop} : (evE p (.ite c a b) e).Ok Q ↔ (evT p c e).Ok fun d e1 => if d = true then (evE p a e1).Ok Q else (evE p b e1).Ok Q := by
  rw [evE, R.ok_bind]
  refine ok_iff fun d e1 => ?_
  cases d <;> simp
theorem ok_chain {o q : P} {a b c : E} {Q : D → Ev → Prop} : (evE p (.chain o q a b c) e).Ok Q ↔ (evE p a e).Ok fun x e1 => (evE p b e1).Ok fun y e2 => ∃ t, pD o [x, y] = some (.bl t) ∧ if t = true then (evE p c e2).Ok fun z e3 => ∃ d, pD q [y, z] = some d ∧ Q d e3 else Q (.bl false) e2 := by
  rw [evE, R.ok_bind]
  refine ok_iff fun x e1 => ?_
  rw [R.ok_bind]
  refine ok_iff fun y e2 => ?_
  cases h : pD o [x, y] with
  | none => simp [R.ok_bad]
  | some t =>
    cases t <;> simp [R.ok_bad]
    rename_i b
    cases b <;> simp [R.ok_ok, R.ok_bind, R.ok_ofO']
theorem ok_call {f : Nat} {es : List E} {dfl : List D} {Q : D → Ev → Prop} : (evE p (.call f es dfl) e).Ok Q ↔ (evEs p es e).Ok fun ds e1 => ∃ ds', late es ds e1 = some ds' ∧ (p.call f (ds' ++ dfl)).Ok fun d o => Q d (back (p.fi f).io es o e1) := by
  rw [evE, R.ok_bind]
  refine ok_iff fun ds e1 => ?_
  cases late es ds e1 <;> simp [R.ok_bad, ok_fin]
theorem ok_callK {s : Nat} {es : List E} {Q : D → Ev → Prop} : (evE p (.callK s es) e).Ok Q ↔ (evEs p es e).Ok fun ds e1 => ∃ ds', late es ds e1 = some ds' ∧ ∃ as, pick (p.sh s).sel ds' = some as ∧ (p.call (p.sh s).f as).Ok fun d o => Q d (back (p.fi (p.sh s).f).io (pickE (p.sh s).sel es) o e1) := by
  rw [evE, R.ok_bind]
  refine ok_iff fun ds e1 => ?_
  cases late es ds e1 with
  | none => simp [R.ok_bad]
  | some ds' =>
    simp only [Option.some.injEq, exists_eq_left']
    cases pick (p.sh s).sel ds' <;> simp [R.ok_bad, ok_fin]
theorem ok_mkK {s C : Nat} {es : List E} {Q : D → Ev → Prop} : (evE p (.mkK s C es) e).Ok Q ↔ (evEs p es e).Ok fun ds e1 => ∃ ds', late es ds e1 = some ds' ∧ ∃ as, pick (p.sh s).sel ds' = some as ∧ (p.call (p.sh s).f (.obj C [] :: as)).Ok fun d o => d = .non ∧ ∃ t outs, o = some t :: outs ∧ Q t (back ((p.fi (p.sh s).f).io.drop 1) (pickE (p.sh s).sel es) outs e1) := by
  rw [evE, R.ok_bind]
  refine ok_iff fun ds e1 => ?_
  cases late es ds e1 with
  | none => simp [R.ok_bad]
  | some ds' =>
    simp only [Option.some.injEq, exists_eq_left']
    cases pick (p.sh s).sel ds' with
    | none => simp [R.ok_bad]
    | some as =>
      simp only [Option.some.injEq, exists_eq_left']
      cases h : p.call (p.sh s).f (.obj C [] :: as) with
      | bad => exact ⟨fun ⟨_, _, h, _⟩ => (by cases h), fun ⟨_, _, h, _⟩ => (by cases h)⟩
      | err x => exact ⟨fun ⟨_, _, h, _⟩ => (by cases h), fun ⟨_, _, h, _⟩ => (by cases h)⟩
      | ok d o =>
        rw [TE.C.ok_ok]
        cases d with
        | non =>
          cases o with
          | nil => exact ⟨fun ⟨_, _, h, _⟩ => (by cases h), fun ⟨_, _, _, h, _⟩ => (by cases h)⟩
          | cons x o =>
            cases x with
            | none => exact ⟨fun ⟨_, _, h, _⟩ => (by cases h), fun ⟨_, _, _, h, _⟩ => (by cases h)⟩
            | some t => exact ⟨fun ⟨_, _, h, q⟩ => (by cases h; exact ⟨rfl, _, _, rfl, q⟩), fun ⟨_, _, _, h, q⟩ => (by cases h; exact ⟨_, _, rfl, q⟩)⟩
        | _ => exact ⟨fun ⟨_, _, h, _⟩ => (by cases h), fun ⟨h, _⟩ => (by cases h)⟩
theorem ok_fld {f : Str} {a : E} {Q : D → Ev → Prop} : (evE p (.fld f a) e).Ok Q ↔ (evE p a e).Ok fun d e1 => ∃ C, ∃ ds, d = .obj C ds ∧ ∃ t, ((p.flds C).zip ds).lookup f = some t ∧ Q t e1 := by
  rw [evE, R.ok_bind]
  refine ok_iff fun d e1 => ?_
  cases d <;> simp only [R.ok_bad, R.ok_ofO', reduceCtorEq, false_and, exists_false, D.obj.injEq]
  exact ⟨fun q => ⟨_, _, ⟨rfl, rfl⟩, q⟩, fun ⟨_, _, ⟨h1, h2⟩, q⟩ => by subst h1; subst h2; exact q⟩
theorem ok_met {m : Mt} {o : E} {es : List E} {Q : D → Ev → Prop} : (evE p (.met m o es) e).Ok Q ↔ (evE p o e).Ok fun d e1 => (evEs p es e1).Ok fun ds e2 => ∃ ds', late es ds e2 = some ds' ∧ ∃ t, pMt m d ds' = some t ∧ Q t e2 := by
  rw [evE, R.ok_bind]
  refine ok_iff fun d e1 => ?_
  rw [R.ok_bind]
  refine ok_iff fun ds e2 => ?_
  cases late es ds e2 <;> simp [R.ok_bad, R.ok_ofO']
theorem late_one {a : E} {d : D} {e : Ev} : late [a] [d] e = none ∨ ∃ x, late [a] [d] e = some [x] := by
  cases a with
  | v i =>
    rw [late_v]
    cases get e i with
    | none => exact .inl rfl
    | some x => exact .inr ⟨x, rfl⟩
  | bad => exact .inr ⟨d, rfl⟩
  | meth => exact .inr ⟨d, rfl⟩
  | mk => exact .inr ⟨d, rfl⟩
  | _ => exact .inr ⟨d, rfl⟩
theorem ok_sl {a : E} {lo hi : List E} {Q : D → Ev → Prop} : (evE p (.sl a lo hi) e).Ok Q ↔ (evE p a e).Ok fun d e1 => (evO p lo e1).Ok fun l e2 => (evO p hi e2).Ok fun h e3 => ∃ ds', late [a] [d] e3 = some ds' ∧ ∃ t, pSl (ds'.headD .non) l h = some t ∧ Q t e3 := by
  rw [evE, R.ok_bind]
  refine ok_iff fun d e1 => ?_
  rw [R.ok_bind]
  refine ok_iff fun l e2 => ?_
  rw [R.ok_bind]
  refine ok_iff fun h e3 => ?_
  rcases late_one (a := a) (d := d) (e := e3) with h | ⟨x, h⟩ <;> rw [h] <;> simp [R.ok_bad, R.ok_ofO']
theorem ok_mv {i : Nat} {Q : D → Ev → Prop} : (evE p (.mv i) e).Ok Q ↔ ∃ d, get e i = some d ∧ Q d (e.set i none) := by
  rw [evE]
  cases get e i <;> simp [R.ok_bad, R.ok_ok]
theorem ok_lc {own : List Nat} {tg : Tg} {it : It} {ifs : List E} {elt : E} {Q : D → Ev → Prop} : (evE p (.lc own tg it ifs elt) e).Ok Q ↔ (evI p it e).Ok fun xs e1 => (lcL (gdI it xs) own tg (evTs p ifs) (evE p elt) xs (wipeE e1 own) []).Ok fun ds e2 => Q (.lst ds) (backE e1 e2 own) := by
  rw [evE, R.ok_bind]
  refine ok_iff fun xs e1 => ?_
  rw [R.ok_bind]
  exact ok_iff fun ds e2 => R.ok_ok
theorem ok_pop {i : Nat} {a : E} {Q : D → Ev → Prop} : (evE p (.pop i a) e).Ok Q ↔ ∃ ds0, get e i = some (.lst ds0) ∧ (evE p a e).Ok fun d e1 => ∃ j, d = .int j ∧ ∃ ds, get e1 i = some (.lst ds) ∧ ∃ k, ixOf ds.length j = some k ∧ ∃ x, ds[k]? = some x ∧ small ds.length = true ∧ Q x (e1.set i (some (.lst (ds.eraseIdx k)))) := by
  rw [evE]
  cases h : get e i with
  | none => simp [R.ok_bad]
  | some t =>
    cases t <;> simp [R.ok_bad]
    rw [R.ok_bind]
    refine ok_iff fun d e1 => ?_
    cases d <;> simp [R.ok_bad]
    cases h : get e1 i with
    | none => simp [R.ok_bad]
    | some t =>
      cases t <;> simp [R.ok_bad]
      rename_i j ds
      cases h : ixOf ds.length j with
      | none => simp [R.ok_bad]
      | some k =>
        simp
        cases h : ds[k]? with
        | none => simp [R.ok_bad]
        | some x =>
          simp
          cases small ds.length <;> simp [R.ok_bad, R.ok_ok]
theorem ok_es0 {Q : List D → Ev → Prop} : (evEs p [] e).Ok Q ↔ Q [] e := by
  rw [evEs, R.ok_ok]
theorem ok_es {a : E} {r : List E} {Q : List D → Ev → Prop} : (evEs p (a :: r) e).Ok Q ↔ (evE p a e).Ok fun d e1 => (evEs p r e1).Ok fun ds e2 => Q (d :: ds) e2 := by
  rw [evEs, R.ok_bind]
  refine ok_iff fun d e1 => ?_
  rw [R.ok_bind]
  exact ok_iff fun ds e2 => R.ok_ok
theorem ok_o0 {Q : Option Int → Ev → Prop} : (evO p [] e).Ok Q ↔ Q none e := by
  rw [evO, R.ok_ok]
theorem ok_o1 {a : E} {Q : Option Int → Ev → Prop} : (evO p [a] e).Ok Q ↔ (evE p a e).Ok fun d e1 => ∃ i, d = .int i ∧ Q (some i) e1 := by
  rw [evO, R.ok_bind]
  refine ok_iff fun d e1 => ?_
  cases d <;> simp [R.ok_bad, R.ok_ok]
/-! ### tests -/
theorem okT_and {a b : E} {Q : Bool → Ev → Prop} : (evT p (.and_ a b) e).Ok Q ↔ (evT p a e).Ok fun d e1 => if d = true then (evT p b e1).Ok Q else Q false e1 := by
  rw [show evT p (.and_ a b) e = (evT p a e).bind fun d e1 => if d then evT p b e1 else .ok false e1 by simp only [evT], R.ok_bind]
  refine ok_iff fun d e1 => ?_
  cases d <;> simp [R.ok_ok]
theorem okT_or {a b : E} {Q : Bool → Ev → Prop} : (evT p (.or_ a b) e).Ok Q ↔ (evT p a e).Ok fun d e1 => if d = true then Q true e1 else (evT p b e1).Ok Q := by
  rw [show evT p (.or_ a b) e = (evT p a e).bind fun d e1 => if d then .ok true e1 else evT p b e1 by simp only [evT], R.ok_bind]
  refine ok_iff fun d e1 => ?_
  cases d <;> simp [R.ok_ok]
theorem okT_not {a : E} {Q : Bool → Ev → Prop} : (evT p (.not_ a) e).Ok Q ↔ (evT p a e).Ok fun d e1 => Q (!d) e1 := by
  rw [show evT p (.not_ a) e = (evT p a e).bind fun d e1 => .ok (!d) e1 by simp only [evT], R.ok_bind]
  exact ok_iff fun d e1 => R.ok_ok
theorem okT_k {d : D} {Q : Bool → Ev → Prop} : (evT p (.k d) e).Ok Q ↔ (evE p (.k d) e).Ok fun d e1 => ∃ b, truth d = some b ∧ Q b e1 := by
  rw [show evT p (.k d) e = (evE p (.k d) e).bind fun d e1 => .ofO (truth d) e1 by simp only [evT], R.ok_bind]
  exact ok_iff fun d e1 => R.ok_ofO'
theorem okT_op {o : P} {as : List E} {Q : Bool → Ev → Prop} : (evT p (.op o as) e).Ok Q ↔ (evE p (.op o as) e).Ok fun d e1 => ∃ b, truth d = some b ∧ Q b e1 := by
  rw [show evT p (.op o as) e = (evE p (.op o as) e).bind fun d e1 => .ofO (truth d) e1 by simp only [evT], R.ok_bind]
  exact ok_iff fun d e1 => R.ok_ofO'
theorem okT_ite {c a b : E} {Q : Bool → Ev → Prop} : (evT p (.ite c a b) e).Ok Q ↔ (evE p (.ite c a b) e).Ok fun d e1 => ∃ b, truth d = some b ∧ Q b e1 := by
  rw [show evT p (.ite c a b) e = (evE p (.ite c a b) e).bind fun d e1 => .ofO (truth d) e1 by simp only [evT], R.ok_bind]
  exact ok_iff fun d e1 => R.ok_ofO'
theorem okT_chain {o q : P} {a b c : E} {Q : Bool → Ev → Prop} : (evT p (.chain o q a b c) e).Ok Q ↔ (evE p (.chain o q a b c) e).Ok fun d e1 => ∃ b, truth d = some b ∧ Q b e1 := by
  rw [show evT p (.chain o q a b c) e = (evE p (.chain o q a b c) e).bind fun d e1 => .ofO (truth d) e1 by simp only [evT], R.ok_bind]
  exact ok_iff fun d e1 => R.ok_ofO'
theorem okT_call {f : Nat} {as : List E} {dfl : List D} {Q : Bool → Ev → Prop} : (evT p (.call f as dfl) e).Ok Q ↔ (evE p (.call f as dfl) e).Ok fun d e1 => ∃ b, truth d = some b ∧ Q b e1 := by
  rw [show evT p (.call f as dfl) e = (evE p (.call f as dfl) e).bind fun d e1 => .ofO (truth d) e1 by simp only [evT], R.ok_bind]
  exact ok_iff fun d e1 => R.ok_ofO'
theorem okT_fld {f : Str} {a : E} {Q : Bool → Ev → Prop} : (evT p (.fld f a) e).Ok Q ↔ (evE p (.fld f a) e).Ok fun d e1 => ∃ b, truth d = some b ∧ Q b e1 := by
  rw [show evT p (.fld f a) e = (evE p (.fld f a) e).bind fun d e1 => .ofO (truth d) e1 by simp only [evT], R.ok_bind]
  exact ok_iff fun d e1 => R.ok_ofO'
theorem okT_lc {own : List Nat} {tg : Tg} {it : It} {ifs : List E} {elt : E} {Q : Bool → Ev → Prop} : (evT p (.lc own tg it ifs elt) e).Ok Q ↔ (evE p (.lc own tg it ifs elt) e).Ok fun d e1 => ∃ b, truth d = some b ∧ Q b e1 := by
  rw [show evT p (.lc own tg it ifs elt) e = (evE p (.lc own tg it ifs elt) e).bind fun d e1 => .ofO (truth d) e1 by simp only [evT], R.ok_bind]
  exact ok_iff fun d e1 => R.ok_ofO'
theorem okT_pop {i : Nat} {a : E} {Q : Bool → Ev → Prop} : (evT p (.pop i a) e).Ok Q ↔ (evE p (.pop i a) e).Ok fun d e1 => ∃ b, truth d = some b ∧ Q b e1 := by
  rw [show evT p (.pop i a) e = (evE p (.pop i a) e).bind fun d e1 => .ofO (truth d) e1 by simp only [evT], R.ok_bind]
  exact ok_iff fun d e1 => R.ok_ofO'
theorem okT_callK {s : Nat} {as : List E} {Q : Bool → Ev → Prop} : (evT p (.callK s as) e).Ok Q ↔ (evE p (.callK s as) e).Ok fun d e1 => ∃ b, truth d = some b ∧ Q b e1 := by
  rw [show evT p (.callK s as) e = (evE p (.callK s as) e).bind fun d e1 => .ofO (truth d) e1 by simp only [evT], R.ok_bind]
  exact ok_iff fun d e1 => R.ok_ofO'
theorem okT_v {i : Nat} {Q : Bool → Ev → Prop} : (evT p (.v i) e).Ok Q ↔ (evE p (.v i) e).Ok fun d e1 => ∃ b, truth d = some b ∧ Q b e1 := by
  rw [show evT p (.v i) e = (evE p (.v i) e).bind fun d e1 => .ofO (truth d) e1 by simp only [evT], R.ok_bind]
  exact ok_iff fun d e1 => R.ok_ofO'
theorem okTs0 {Q : Bool → Ev → Prop} : (evTs p [] e).Ok Q ↔ Q true e := by
  rw [evTs, R.ok_ok]
theorem okTs1 {a : E} {Q : Bool → Ev → Prop} : (evTs p [a] e).Ok Q ↔ (evT p a e).Ok Q := by
  rw [evTs]
/-! ### what is walked -/
theorem okI_val {a : E} {Q : List D → Ev → Prop} : (evI p (.val a) e).Ok Q ↔ (evE p a e).Ok fun d e1 => ∃ xs, itD d = some xs ∧ Q xs e1 := by
  rw [evI, R.ok_bind]
  exact ok_iff fun d e1 => R.ok_ofO'
theorem okI_rng {a : E} {Q : List D → Ev → Prop} : (evI p (.rng a) e).Ok Q ↔ (evE p a e).Ok fun d e1 => ∃ n, d = .int n ∧ ∃ xs, rngD 0 n = some xs ∧ Q xs e1 := by
  rw [evI, R.ok_bind]
  refine ok_iff fun d e1 => ?_
  cases d <;> simp [R.ok_bad, R.ok_ofO']
theorem okI_rng2 {a b : E} {Q : List D → Ev → Prop} : (evI p (.rng2 a b) e).Ok Q ↔ (evE p a e).Ok fun x e1 => (evE p b e1).Ok fun y e2 => ∃ i, x = .int i ∧ ∃ j, y = .int j ∧ ∃ xs, rngD i j = some xs ∧ Q xs e2 := by
  rw [evI, R.ok_bind]
  refine ok_iff fun x e1 => ?_
  rw [R.ok_bind]
  refine ok_iff fun y e2 => ?_
  cases x <;> cases y <;> simp [R.ok_bad, R.ok_ofO']
theorem okI_zip {a b : E} {Q : List D → Ev → Prop} : (evI p (.zip a b) e).Ok Q ↔ (evE p a e).Ok fun x e1 => (evE p b e1).Ok fun y e2 => ∃ xs, zipD x y = some xs ∧ Q xs e2 := by
  rw [evI, R.ok_bind]
  refine ok_iff fun x e1 => ?_
  rw [R.ok_bind]
  exact ok_iff fun y e2 => R.ok_ofO'
theorem okI_enu {a : E} {Q : List D → Ev → Prop} : (evI p (.enu a) e).Ok Q ↔ (evE p a e).Ok fun x e1 => ∃ xs, enumD x = some xs ∧ Q xs e1 := by
  rw [evI, R.ok_bind]
  exact ok_iff fun x e1 => R.ok_ofO'
theorem okI_slot {i : Nat} {Q : List D → Ev → Prop} : (evI p (.slot i) e).Ok Q ↔ ∃ ds, get e i = some (.lst ds) ∧ Q ds e := by
  rw [evI]
  cases get e i with
  | none => simp [R.ok_bad]
  | some t => cases t <;> simp [R.ok_bad, R.ok_ok]
/-! ### statements -/
theorem ok_ss0 {Q : Fl → Ev → Prop} : (exSs p KK [] e).Ok Q ↔ Q .next e := by
  rw [exSs, R.ok_ok]
/-- behind a statement -/
def nxQ (p : Pr) (KK : Nat) (r : List S) (Q : Fl → Ev → Prop) : Fl → Ev → Prop
  | .next, e => (exSs p KK r e).Ok Q
  | f, e => Q f e
theorem nx_next {r : List S} {Q : Fl → Ev → Prop} : nxQ p KK r Q .next e ↔ (exSs p KK r e).Ok Q := Iff.rfl
theorem nx_ret {r : List S} {d : D} {Q : Fl → Ev → Prop} : nxQ p KK r Q (.ret d) e ↔ Q (.ret d) e := Iff.rfl
theorem nx_brk {r : List S} {Q : Fl → Ev → Prop} : nxQ p KK r Q .brk e ↔ Q .brk e := Iff.rfl
theorem nx_cont {r : List S} {Q : Fl → Ev → Prop} : nxQ p KK r Q .cont e ↔ Q .cont e := Iff.rfl
theorem ok_ss {s : S} {r : List S} {Q : Fl → Ev → Prop} : (exSs p KK (s :: r) e).Ok Q ↔ (exS p KK s e).Ok (nxQ p KK r Q) := by
  rw [exSs, R.ok_bind]
  refine ok_iff fun f e1 => ?_
  cases f <;> simp [R.ok_ok, nxQ]
theorem st_go {s : S} {r : List S} {Q : Fl → Ev → Prop} (h : (exS p KK s e).Ok (nxQ p KK r Q)) : (exSs p KK (s :: r) e).Ok Q := ok_ss.mpr h
theorem st_nx {s : S} {r : List S} {Q : Fl → Ev → Prop} (h : (exS p KK s e).Ok (nxQ p KK r Q)) : nxQ p KK (s :: r) Q .next e := ok_ss.mpr h
theorem st_end {Q : Fl → Ev → Prop} (h : Q .next e) : nxQ p KK [] Q .next e := ok_ss0.mpr h
theorem st_end0 {Q : Fl → Ev → Prop} (h : Q .next e) : (exSs p KK [] e).Ok Q := ok_ss0.mpr h
theorem ok_pass {Q : Fl → Ev → Prop} : (exS p KK .pass e).Ok Q ↔ Q .next e := by
  rw [exS, R.ok_ok]
theorem ok_brk {Q : Fl → Ev → Prop} : (exS p KK .brk e).Ok Q ↔ Q .brk e := by
  rw [exS, R.ok_ok]
theorem ok_cont {Q : Fl → Ev → Prop} : (exS p KK .cont e).Ok Q ↔ Q .cont e := by
  rw [exS, R.ok_ok]
theorem ok_expr {a : E} {Q : Fl → Ev → Prop} : (exS p KK (.expr a) e).Ok Q ↔ (evE p a e).Ok fun _ e1 => Q .next e1 := by
  rw [exS, R.ok_bind]
  exact ok_iff fun d e1 => R.ok_ok
theorem ok_set {i : Nat} {m : Bool} {a : E} {Q : Fl → Ev → Prop} : (exS p KK (.set i m a) e).Ok Q ↔ (evE p a e).Ok fun d e1 => ∃ e2, setK (i, m) d e1 = some e2 ∧ Q .next e2 := by
  rw [exS, R.ok_bind]
  refine ok_iff fun d e1 => ?_
  cases setK (i, m) d e1 <;> simp [R.ok_bad, R.ok_ok]
theorem ok_par {is : List (Nat × Bool)} {es : List E} {Q : Fl → Ev → Prop} : (exS p KK (.par is es) e).Ok Q ↔ (evEs p es e).Ok fun ds e1 => ∃ e2, setKs is ds e1 = some e2 ∧ Q .next e2 := by
  rw [exS, R.ok_bind]
  refine ok_iff fun d e1 => ?_
  cases setKs is d e1 <;> simp [R.ok_bad, R.ok_ok]
theorem ok_unp {is : List Nat} {a : E} {Q : Fl → Ev → Prop} : (exS p KK (.unp is a) e).Ok Q ↔ (evE p a e).Ok fun d e1 => ∃ e2, setT (.tp is) d e1 = some e2 ∧ Q .next e2 := by
  rw [exS, R.ok_bind]
  refine ok_iff fun d e1 => ?_
  cases setT (.tp is) d e1 <;> simp [R.ok_bad, R.ok_ok]
theorem ok_augA {i : Nat} {a : E} {Q : Fl → Ev → Prop} : (exS p KK (.aug .add i a) e).Ok Q ↔ ∃ x, get e i = some (.int x) ∧ (evE p a e).Ok fun d e1 => ∃ y, d = .int y ∧ Q .next (e1.set i (some (.int (x + y)))) := by
  rw [exS]
  cases h : get e i with
  | none => simp [R.ok_bad]
  | some t =>
    cases t <;> simp [R.ok_bad]
    rw [R.ok_bind]
    refine ok_iff fun d e1 => ?_
    cases d <;> simp [R.ok_bad, R.ok_ok]
theorem ok_seti {i : Nat} {j a : E} {Q : Fl → Ev → Prop} : (exS p KK (.seti i j a) e).Ok Q ↔ (evE p a e).Ok fun d e1 => ∃ ds0, get e1 i = some (.lst ds0) ∧ (evE p j e1).Ok fun x e2 => ∃ n, x = .int n ∧ ∃ ds, get e2 i = some (.lst ds) ∧ ∃ k, ixOf ds.length n = some k ∧ Q .next (e2.set i (some (.lst (ds.set k d)))) := by
  rw [exS, R.ok_bind]
  refine ok_iff fun d e1 => ?_
  cases h : get e1 i with
  | none => simp [R.ok_bad]
  | some t =>
    cases t <;> simp [R.ok_bad]
    rw [R.ok_bind]
    refine ok_iff fun x e2 => ?_
    cases x <;> simp [R.ok_bad]
    cases h : get e2 i with
    | none => simp [R.ok_bad]
    | some t =>
      cases t <;> simp [R.ok_bad]
      rename_i n ds
      cases h : ixOf ds.length n <;> simp [R.ok_bad, R.ok_ok]
theorem ok_setf {i : Nat} {f : Str} {a : E} {Q : Fl → Ev → Prop} : (exS p KK (.setf i f a) e).Ok Q ↔ (evE p a e).Ok fun d e1 => ∃ C ds, get e1 i = some (.obj C ds) ∧ ((p.flds C)[ds.length]? = some f ∧ ((p.flds C).take ds.length).contains f = false ∧ ds.length < 900) ∧ Q .next (e1.set i (some (.obj C (ds ++ [d])))) := by
  rw [exS, R.ok_bind]
  refine ok_iff fun d e1 => ?_
  cases h : get e1 i with
  | none => simp [R.ok_bad]
  | some t =>
    cases t <;> simp only [R.ok_bad, Option.some.injEq, reduceCtorEq, false_and, exists_false, D.obj.injEq]
    rename_i C ds
    by_cases hc : (p.flds C)[ds.length]? = some f ∧ ((p.flds C).take ds.length).contains f = false ∧ ds.length < 900
    · rw [if_pos hc, R.ok_ok]
      exact ⟨fun q => ⟨C, ds, ⟨rfl, rfl⟩, hc, q⟩, fun ⟨_, _, ⟨h1, h2⟩, _, q⟩ => by subst h1; subst h2; exact q⟩
    · rw [if_neg hc, R.ok_bad]
      exact ⟨fun q => q.elim, fun ⟨_, _, ⟨h1, h2⟩, q, _⟩ => by subst h1; subst h2; exact hc q⟩
theorem ok_app {i : Nat} {a : E} {Q : Fl → Ev → Prop} : (exS p KK (.app i a) e).Ok Q ↔ ∃ ds0, get e i = some (.lst ds0) ∧ (evE p a e).Ok fun d e1 => ∃ ds, get e1 i = some (.lst ds) ∧ small ds.length = true ∧ Q .next (e1.set i (some (.lst (ds ++ [d])))) := by
  rw [exS]
  cases h : get e i with
  | none => simp [R.ok_bad]
  | some t =>
    cases t <;> simp [R.ok_bad]
    rw [R.ok_bind]
    refine ok_iff fun d e1 => ?_
    cases h : get e1 i with
    | none => simp [R.ok_bad]
    | some t =>
      cases t <;> simp [R.ok_bad]
      rename_i ds
      cases small ds.length <;> simp [R.ok_bad, R.ok_ok]
theorem ok_ifS {c : E} {a b : List S} {Q : Fl → Ev → Prop} : (exS p KK (.if_ c a b) e).Ok Q ↔ (evT p c e).Ok fun d e1 => if d = true then (exSs p KK a e1).Ok Q else (exSs p KK b e1).Ok Q := by
  rw [exS, R.ok_bind]
  refine ok_iff fun d e1 => ?_
  cases d <;> simp
theorem ok_for {tg : Tg} {it : It} {b : List S} {Q : Fl → Ev → Prop} : (exS p KK (.for_ tg it b) e).Ok Q ↔ (evI p it e).Ok fun xs e1 => (forL (gdI it xs) tg (exSs p KK b) xs e1).Ok Q := by
  rw [exS, R.ok_bind]
theorem ok_whl {c : E} {b : List S} {Q : Fl → Ev → Prop} : (exS p KK (.whl c b) e).Ok Q ↔ (whlL (evT p c) (exSs p KK b) KK e).Ok Q := by
  rw [exS]
theorem ok_ret {a : E} {Q : Fl → Ev → Prop} : (exS p KK (.ret a) e).Ok Q ↔ (evE p a e).Ok fun d e1 => Q (.ret d) e1 := by
  rw [exS, R.ok_bind]
  exact ok_iff fun d e1 => R.ok_ok
end
/-! ### operations -/
section
variable {i j : Int} {a b : List Nat} {x y : Bool} {xs ys : List D} {d c : D}
theorem pd_addI : pD .add [.int i, .int j] = some (.int (i + j)) := rfl
theorem pd_addS (h : small (a.length + b.length) = true) : pD .add [.str a, .str b] = some (.str (a ++ b)) := by
  show (if small (a.length + b.length) then some (D.str (a ++ b)) else none) = _
  rw [if_pos h]
theorem pd_addL (h : small (xs.length + ys.length) = true) : pD .add [.lst xs, .lst ys] = some (.lst (xs ++ ys)) := by
  show (if small (xs.length + ys.length) then some (D.lst (xs ++ ys)) else none) = _
  rw [if_pos h]
theorem pd_addT (h : small (xs.length + ys.length) = true) : pD .add [.tup xs, .tup ys] = some (.tup (xs ++ ys)) := by
  show (if small (xs.length + ys.length) then some (D.tup (xs ++ ys)) else none) = _
  rw [if_pos h]
theorem pd_sub : pD .sub [.int i, .int j] = some (.int (i - j)) := rfl
theorem pd_mulI (h : i.natAbs.log2 + j.natAbs.log2 < 1000000) : pD .mul [.int i, .int j] = some (.int (i * j)) := by
  show (if i.natAbs.log2 + j.natAbs.log2 < 1000000 then some (D.int (i * j)) else none) = _
  rw [if_pos h]
theorem pd_fdv (h0 : 0 < j) (h : j.natAbs.log2 < 9000) : pD .fdv [.int i, .int j] = some (.int (i / j)) := by
  show (if 0 < j ∧ j.natAbs.log2 < 9000 then some (D.int (i / j)) else none) = _
  rw [if_pos ⟨h0, h⟩]
theorem pd_mod (h0 : 0 < j) : pD .mod [.int i, .int j] = some (.int (i % j)) := by
  show (if 0 < j then some (D.int (i % j)) else none) = _
  rw [if_pos h0]
theorem pd_pow (h : 0 ≤ j ∧ j ≤ 1000 ∧ i.natAbs < 18446744073709551616) : pD .pow [.int i, .int j] = some (.int (i ^ j.toNat)) := by
  show (if 0 ≤ j ∧ j ≤ 1000 ∧ i.natAbs < 18446744073709551616 then some (D.int (i ^ j.toNat)) else none) = _
  rw [if_pos h]
theorem pd_eqI : pD .eq [.int i, .int j] = some (.bl (i == j)) := rfl
theorem pd_eqB : pD .eq [.bl x, .bl y] = some (.bl (x == y)) := rfl
theorem pd_eqS : pD .eq [.str a, .str b] = some (.bl (a == b)) := rfl
theorem pd_neI : pD .ne [.int i, .int j] = some (.bl (!(i == j))) := rfl
theorem pd_neB : pD .ne [.bl x, .bl y] = some (.bl (!(x == y))) := rfl
theorem pd_neS : pD .ne [.str a, .str b] = some (.bl (!(a == b))) := rfl
theorem pd_ltI : pD .lt [.int i, .int j] = some (.bl (decide (i < j))) := rfl
theorem pd_leI : pD .le [.int i, .int j] = some (.bl (decide (i ≤ j))) := rfl
theorem pd_gtI : pD .gt [.int i, .int j] = some (.bl (decide (j < i))) := rfl
theorem pd_geI : pD .ge [.int i, .int j] = some (.bl (decide (j ≤ i))) := rfl
theorem pd_leS : pD .le [.str a, .str b] = some (.bl (!ltT b a)) := rfl
theorem pd_isN : pD .isN [d] = some (.bl (isNonD d)) := rfl
theorem pd_idxL : pD .idx [.lst xs, .int i] = (ixOf xs.length i).bind fun k => xs[k]? := rfl
theorem pd_idxT : pD .idx [.tup xs, .int i] = (ixOf xs.length i).bind fun k => xs[k]? := rfl
theorem pd_lenL (h : small xs.length = true) : pD (.bf .len) [.lst xs] = some (.int xs.length) := by
  show (if small xs.length then some (D.int xs.length) else none) = _
  rw [if_pos h]
theorem pd_lenT (h : small xs.length = true) : pD (.bf .len) [.tup xs] = some (.int xs.length) := by
  show (if small xs.length then some (D.int xs.length) else none) = _
  rw [if_pos h]
theorem pd_lenS (h : small a.length = true) : pD (.bf .len) [.str a] = some (.int a.length) := by
  show (if small a.length then some (D.int a.length) else none) = _
  rw [if_pos h]
theorem pd_intI : pD (.bf .int) [.int i] = some (.int i) := rfl
theorem pd_list : pD (.bf .list) [.lst xs] = some (.lst xs) := rfl
theorem pd_listT : pD (.bf .list) [.tup xs] = some (.lst xs) := rfl
theorem pd_tuple : pD (.bf .tuple) [.lst xs] = some (.tup xs) := rfl
theorem pd_lst (h : small xs.length = true) : pD .lst xs = some (.lst xs) := by
  show (if small xs.length then some (D.lst xs) else none) = _
  rw [if_pos h]
theorem pd_tup (h : small xs.length = true) : pD .tup xs = some (.tup xs) := by
  show (if small xs.length then some (D.tup xs) else none) = _
  rw [if_pos h]
theorem pd_dct : pD .dct [] = some (.dct [] []) := rfl
theorem pd_isi {n : Nat} {cs : List Cl} {t : Cl} (h : tyD d = some t) (h2 : clOk n t = true) : pD (.isi n cs) [d] = some (.bl (cs.any (isC d))) := by
  show ((tyD d).bind fun t => if clOk n t then some (D.bl (cs.any (isC d))) else none) = _
  rw [h]
  show (if clOk n t then some (D.bl (cs.any (isC d))) else none) = _
  rw [if_pos h2]
theorem pd_all {bs : List Bool} : pD (.bf .all) [.lst (bs.map .bl)] = some (.bl (bs.all id)) := by
  have : allBl (bs.map D.bl) = some bs := by
    induction bs with
    | nil => rfl
    | cons b bs ih => simp [allBl, ih]
  show (allBl (bs.map D.bl)).map _ = _
  rw [this]; rfl
theorem ix_nat {n k : Nat} (h : k < n) : ixOf n (k : Int) = some k := by
  unfold ixOf
  rw [if_pos (by omega), if_pos (by omega)]
  simp
theorem ix_int {n : Nat} {i : Int} (h0 : 0 ≤ i) (h : i < n) : ixOf n i = some i.toNat := by
  unfold ixOf
  rw [if_pos h0, if_pos (by omega)]
theorem stK_n {k : Nat} {e : Ev} : setK (k, false) d e = some (e.set k (some d)) := rfl
theorem stK_m {k : Nat} {e : Ev} (h : d.isM = true) : setK (k, true) d e = some (e.set k (some d)) := by
  unfold setK
  rw [if_neg (by simp [h])]
theorem setKs_nil {e : Ev} : setKs [] [] e = some e := rfl
theorem setKs_n {k : Nat} {r : List (Nat × Bool)} {ds : List D} {e : Ev} : setKs ((k, false) :: r) (d :: ds) e = setKs r ds (e.set k (some d)) := rfl
theorem setKs_m {k : Nat} {r : List (Nat × Bool)} {ds : List D} {e : Ev} (h : d.isM = true) : setKs ((k, true) :: r) (d :: ds) e = setKs r ds (e.set k (some d)) := by
  show (setK (k, true) d e).bind _ = _
  rw [stK_m h]; rfl
end
theorem pd_l0 : pD .lst [] = some (.lst []) := rfl
theorem pd_t0 : pD .tup [] = some (.tup []) := rfl
theorem pd_l1 {x0 : D} : pD .lst [x0] = some (.lst [x0]) := rfl
theorem pd_t1 {x0 : D} : pD .tup [x0] = some (.tup [x0]) := rfl
theorem pd_l2 {x0 x1 : D} : pD .lst [x0, x1] = some (.lst [x0, x1]) := rfl
theorem pd_t2 {x0 x1 : D} : pD .tup [x0, x1] = some (.tup [x0, x1]) := rfl
theorem pd_l3 {x0 x1 x2 : D} : pD .lst [x0, x1, x2] = some (.lst [x0, x1, x2]) := rfl
theorem pd_t3 {x0 x1 x2 : D} : pD .tup [x0, x1, x2] = some (.tup [x0, x1, x2]) := rfl
theorem pd_l4 {x0 x1 x2 x3 : D} : pD .lst [x0, x1, x2, x3] = some (.lst [x0, x1, x2, x3]) := rfl
theorem pd_t4 {x0 x1 x2 x3 : D} : pD .tup [x0, x1, x2, x3] = some (.tup [x0, x1, x2, x3]) := rfl
theorem pd_l5 {x0 x1 x2 x3 x4 : D} : pD .lst [x0, x1, x2, x3, x4] = some (.lst [x0, x1, x2, x3, x4]) := rfl
theorem pd_t5 {x0 x1 x2 x3 x4 : D} : pD .tup [x0, x1, x2, x3, x4] = some (.tup [x0, x1, x2, x3, x4]) := rfl
theorem pd_l6 {x0 x1 x2 x3 x4 x5 : D} : pD .lst [x0, x1, x2, x3, x4, x5] = some (.lst [x0, x1, x2, x3, x4, x5]) := rfl
theorem pd_t6 {x0 x1 x2 x3 x4 x5 : D} : pD .tup [x0, x1, x2, x3, x4, x5] = some (.tup [x0, x1, x2, x3, x4, x5]) := rfl
theorem pd_l7 {x0 x1 x2 x3 x4 x5 x6 : D} : pD .lst [x0, x1, x2, x3, x4, x5, x6] = some (.lst [x0, x1, x2, x3, x4, x5, x6]) := rfl
theorem pd_t7 {x0 x1 x2 x3 x4 x5 x6 : D} : pD .tup [x0, x1, x2, x3, x4, x5, x6] = some (.tup [x0, x1, x2, x3, x4, x5, x6]) := rfl
theorem pd_l8 {x0 x1 x2 x3 x4 x5 x6 x7 : D} : pD .lst [x0, x1, x2, x3, x4, x5, x6, x7] = some (.lst [x0, x1, x2, x3, x4, x5, x6, x7]) := rfl
theorem pd_t8 {x0 x1 x2 x3 x4 x5 x6 x7 : D} : pD .tup [x0, x1, x2, x3, x4, x5, x6, x7] = some (.tup [x0, x1, x2, x3, x4, x5, x6, x7]) := rfl
theorem pd_l9 {x0 x1 x2 x3 x4 x5 x6 x7 x8 : D} : pD .lst [x0, x1, x2, x3, x4, x5, x6, x7, x8] = some (.lst [x0, x1, x2, x3, x4, x5, x6, x7, x8]) := rfl
theorem pd_t9 {x0 x1 x2 x3 x4 x5 x6 x7 x8 : D} : pD .tup [x0, x1, x2, x3, x4, x5, x6, x7, x8] = some (.tup [x0, x1, x2, x3, x4, x5, x6, x7, x8]) := rfl
theorem pd_l10 {x0 x1 x2 x3 x4 x5 x6 x7 x8 x9 : D} : pD .lst [x0, x1, x2, x3, x4, x5, x6, x7, x8, x9] = some (.lst [x0, x1, x2, x3, x4, x5, x6, x7, x8, x9]) := rfl
theorem pd_t10 {x0 x1 x2 x3 x4 x5 x6 x7 x8 x9 : D} : pD .tup [x0, x1, x2, x3, x4, x5, x6, x7, x8, x9] = some (.tup [x0, x1, x2, x3, x4, x5, x6, x7, x8, x9]) := rfl
theorem pd_l11 {x0 x1 x2 x3 x4 x5 x6 x7 x8 x9 x10 : D} : pD .lst [x0, x1, x2, x3, x4, x5, x6, x7, x8, x9, x10] = some (.lst [x0, x1, x2, x3, x4, x5, x6, x7, x8, x9, x10]) := rfl
theorem pd_t11 {x0 x1 x2 x3 x4 x5 x6 x7 x8 x9 x10 : D} : pD .tup [x0, x1, x2, x3, x4, x5, x6, x7, x8, x9, x10] = some (.tup [x0, x1, x2, x3, x4, x5, x6, x7, x8, x9, x10]) := rfl
theorem pd_l12 {x0 x1 x2 x3 x4 x5 x6 x7 x8 x9 x10 x11 : D} : pD .lst [x0, x1, x2, x3, x4, x5, x6, x7, x8, x9, x10, x11] = some (.lst [x0, x1, x2, x3, x4, x5, x6, x7, x8, x9, x10, x11]) := rfl
theorem pd_t12 {x0 x1 x2 x3 x4 x5 x6 x7 x8 x9 x10 x11 : D} : pD .tup [x0, x1, x2, x3, x4, x5, x6, x7, x8, x9, x10, x11] = some (.tup [x0, x1, x2, x3, x4, x5, x6, x7, x8, x9, x10, x11]) := rfl
/-! ### ranges -/
theorem rngOk {n : Int} (h0 : 0 ≤ n) (h : n ≤ 1000000) : rngD 0 n = some ((List.range n.toNat).map fun k => .int (k : Nat)) := by
  unfold rngD
  rw [if_pos (by simp; omega)]
  simp
theorem small_le {n : Nat} (h : n ≤ 1000000) : small n = true := by unfold small; exact decide_eq_true h
end TE
/-! Tp2: the laws' own helpers: what they give. -/
namespace TE
open PySem L2
/-- the numbers to draw from, with k pulls left to be made -/
def Bag (k : Nat) (t : D) : Prop := ∃ (xs : List Int) (a b c d : Int), t = .lst [.lst (xs.map .int), .int a, .int b, .int c, .int d] ∧ xs.length ≤ 63 ∧ 0 ≤ a ∧ 0 ≤ b ∧ 0 ≤ c ∧ c < 2147483353 ∧ 0 ≤ d ∧ d + k ≤ 1000000
theorem Bag.mono {k j : Nat} {t : D} (h : Bag k t) (hj : j ≤ k) : Bag j t := by
  obtain ⟨xs, a, b, c, d, h1, h2, h3, h4, h5, h6, h7, h8⟩ := h
  exact ⟨xs, a, b, c, d, h1, h2, h3, h4, h5, h6, h7, by omega⟩
theorem Bag.isM {k : Nat} {t : D} (h : Bag k t) : t.isM = true := by
  obtain ⟨xs, a, b, c, d, rfl, _⟩ := h
  rfl
def dfPull : Df := ⟨⟨[.m, .n], false⟩, [.n, .n, .n], [(.seti 0 (.k (.int 4)) (.op .add [(.op .idx [(.v 0), (.k (.int 4))]), (.k (.int 1))])), (.if_ (.and_ (.op .eq [(.op .idx [(.v 0), (.k (.int 2))]), (.k (.int 0))]) (.op .lt [(.op .idx [(.v 0), (.k (.int 1))]), (.op (.bf .len) [(.op .idx [(.v 0), (.k (.int 0))])])])) [(.set 3 false (.op .idx [(.op .idx [(.v 0), (.k (.int 0))]), (.op .idx [(.v 0), (.k (.int 1))])])), (.seti 0 (.k (.int 1)) (.op .add [(.op .idx [(.v 0), (.k (.int 1))]), (.k (.int 1))])), (.if_ (.op .ge [(.v 3), (.op .pow [(.k (.int 10)), (.k (.int 18))])]) [(.seti 0 (.k (.int 2)) (.v 3))] []), (.seti 0 (.k (.int 3)) (.op .mod [(.op (.bf .int) [(.op .add [(.op .add [(.op .mul [(.op .idx [(.v 0), (.k (.int 3))]), (.k (.int 44021))]), (.op .mul [(.op .mod [(.op (.bf .int) [(.v 3)]), (.k (.int 2147483249))]), (.k (.int 52181))])]), (.k (.int 71))])]), (.k (.int 2147483353))]))] []), (.if_ (.op .gt [(.op .idx [(.v 0), (.k (.int 2))]), (.k (.int 0))]) [(.set 4 false (.op .mod [(.op (.bf .int) [(.op .idx [(.v 0), (.k (.int 2))])]), (.v 1)])), (.seti 0 (.k (.int 2)) (.op .fdv [(.op .idx [(.v 0), (.k (.int 2))]), (.v 1)])), (.ret (.v 4))] []), (.set 2 false (.op .idx [(.v 0), (.k (.int 3))])), (.seti 0 (.k (.int 3)) (.op .mod [(.op (.bf .int) [(.op .add [(.op .add [(.op .add [(.op .pow [(.v 2), (.k (.int 3))]), (.op .mul [(.v 2), (.k (.int 38993))])]), (.op .mul [(.op .idx [(.v 0), (.k (.int 4))]), (.k (.int 1299721))])]), (.k (.int 70507))])]), (.k (.int 2147483353))])), (.ret (.op .mod [(.op (.bf .int) [(.op .add [(.op .fdv [(.op .idx [(.v 0), (.k (.int 3))]), (.k (.int 89))]), (.op .mul [(.op .mod [(.op (.bf .int) [(.op .idx [(.v 0), (.k (.int 3))])]), (.k (.int 7907))]), (.k (.int 61))])])]), (.v 1)]))]⟩
def dfAny (pull : Nat) : Df := ⟨⟨[.m, .n], false⟩, [], [(.ret (.op .idx [(.v 1), (.call pull [(.v 0), (.op (.bf .len) [(.v 1)])] [])]))]⟩
def dfDraws : Df := ⟨⟨[.n], true⟩, [], [(.ret (.op .lst [(.op (.bf .list) [(.sl (.v 0) [] [(.k (.int 63))])]), (.k (.int 0)), (.k (.int 0)), (.k (.int 10039)), (.k (.int 0))]))]⟩
theorem log_lt {n k : Nat} (h : n < 2 ^ k) (hk : 0 < k) : n.log2 < k := by
  by_cases h0 : n = 0
  · subst h0; simpa using hk
  · exact (Nat.log2_lt h0).mpr h
theorem log_int {i : Int} {k : Nat} (h0 : 0 ≤ i) (h : i < 2 ^ k) (hk : 0 < k) : i.natAbs.log2 < k := by
  refine log_lt ?_ hk
  have h2 : ((i.natAbs : Nat) : Int) < ((2 ^ k : Nat) : Int) := by
    rw [Int.natAbs_of_nonneg h0]
    simpa using h
  exact Int.ofNat_lt.mp h2
theorem bag_at {xs : List Int} {a : Int} (h0 : 0 ≤ a) (h : a < xs.length) : ∃ v, pD .idx [.lst (xs.map .int), .int a] = some (.int v) ∧ v ∈ xs := by
  obtain ⟨k, rfl⟩ := Int.eq_ofNat_of_zero_le h0
  have hk : k < xs.length := by omega
  refine ⟨xs[k], ?_, List.getElem_mem hk⟩
  rw [pd_idxL, ix_nat (by simpa using hk)]
  simp [hk]
section
variable {pg : Pg} {KK n i : Nat}
theorem draws_ok {ns : List Int} (h : pg.defs[i]? = some dfDraws) : (pg.callN KK (n + 1) i [.scr ns]).Ok fun d o => o = [none] ∧ Bag 900000 d := by
  refine callN_ok h rfl ?_
  refine st_go ?_
  simp only [ok_v, ok_k, ok_op, ok_and, ok_or, ok_not, ok_if, ok_chain, ok_call, ok_callK, ok_mkK, ok_fld, ok_met, ok_sl, ok_mv, ok_lc, ok_pop, ok_es0, ok_es, ok_o0, ok_o1, okT_and, okT_or, okT_not, okT_k, okT_op, okT_ite, okT_chain, okT_call, okT_fld, okT_lc, okT_pop, okT_callK, okT_v, okTs0, okTs1, okI_val, okI_rng, okI_rng2, okI_zip, okI_enu, okI_slot, ok_pass, ok_brk, ok_cont, ok_expr, ok_set, ok_par, ok_unp, ok_augA, ok_seti, ok_setf, ok_app, ok_ifS, ok_for, ok_whl, ok_ret, late_k, late_op, late_and_, late_or_, late_not_, late_ite, late_chain, late_call, late_fld, late_met, late_sl, late_lc, late_pop, late_mv, late_callK, late_mkK, late_v, late_nil, get_c0, get_cs, List.set_cons_zero, List.set_cons_succ, stK_n, setKs_nil, setKs_n, Option.bind_some, Option.map_some, Option.some.injEq, exists_eq_left', exists_eq_left, pr_call, pr_fi, List.append_nil, List.cons_append, List.nil_append, List.map_cons, List.map_nil, List.replicate_succ, List.replicate_zero, D.int.injEq, D.bl.injEq, D.lst.injEq, D.str.injEq, D.tup.injEq, pd_addI, pd_sub, pd_eqI, pd_eqB, pd_eqS, pd_neI, pd_neB, pd_neS, pd_ltI, pd_leI, pd_gtI, pd_geI, pd_leS, pd_isN, pd_intI, pd_list, pd_listT, pd_tuple, pd_dct, truth, isNonD, reduceCtorEq, if_true, if_false, reduceIte, Bool.false_eq_true, Bool.not_true, Bool.not_false, List.length_cons, List.length_nil, true_and, and_true, exists_const, exists_eq', List.headD_cons, pd_l0, pd_t0, pd_l1, pd_t1, pd_l2, pd_t2, pd_l3, pd_t3, pd_l4, pd_t4, pd_l5, pd_t5, pd_l6, pd_t6, pd_l7, pd_t7, pd_l8, pd_t8, pd_l9, pd_t9, pd_l10, pd_t10, pd_l11, pd_t11, pd_l12, pd_t12, exists_eq, dfDraws]
  refine ⟨_, rfl, _, rfl, ?_⟩
  refine (nx_ret (e := [some (.scr ns)])).mpr ⟨rfl, ?_⟩
  refine ⟨cut ns none (some 63), 0, 0, 10039, 0, rfl, ?_, by decide, by decide, by decide, by decide, by decide, by decide⟩
  show (cut ns none (some 63)).length ≤ 63
  unfold cut
  rw [List.length_take]
  refine Nat.le_trans (Nat.min_le_left _ _) ?_
  have : slOf ns.length (some 63) ns.length ≤ 63 := by
    unfold slOf
    simp only
    rw [if_pos (by decide)]
    exact Nat.min_le_left _ _
  omega
theorem p18 : pD .pow [.int 10, .int 18] = some (.int 1000000000000000000) := by rw [pd_pow (by decide)]; rfl
theorem pull_ok {t : D} {k : Nat} {m : Int} (h : pg.defs[i]? = some dfPull) (hb : Bag k t) (hk : 1 ≤ k) (h0 : 0 < m) (h1 : m < 2 ^ 1000) :
    (pg.callN KK (n + 1) i [t, .int m]).Ok fun d o => ∃ r t', d = .int r ∧ o = [some t', none] ∧ 0 ≤ r ∧ r < m ∧ Bag (k - 1) t' := by
  obtain ⟨xs, a, b, c, d, rfl, hx, ha, hb0, hc, hc2, hd, hd2⟩ := hb
  have hs : small (xs.map D.int).length = true := small_le (by rw [List.length_map]; omega)
  have rest : ∀ (a b c : Int) (x : Option D), 0 ≤ a → 0 ≤ b → 0 ≤ c → c < 2147483353 → nxQ (pg.prOf (pg.callN KK n)) KK (dfPull.body.drop 2)
      (endQ dfPull.fi.io fun d o => ∃ r t', d = .int r ∧ o = [some t', none] ∧ 0 ≤ r ∧ r < m ∧ Bag (k - 1) t') .next [some (.lst [.lst (xs.map .int), .int a, .int b, .int c, .int (d + 1)]), some (.int m), none, x, none] := by
    intro a b c x ha hb0 hc hc2
    refine st_nx ?_
    simp only [ok_v, ok_k, ok_op, ok_and, ok_or, ok_not, ok_if, ok_chain, ok_call, ok_callK, ok_mkK, ok_fld, ok_met, ok_sl, ok_mv, ok_lc, ok_pop, ok_es0, ok_es, ok_o0, ok_o1, okT_and, okT_or, okT_not, okT_k, okT_op, okT_ite, okT_chain, okT_call, okT_fld, okT_lc, okT_pop, okT_callK, okT_v, okTs0, okTs1, okI_val, okI_rng, okI_rng2, okI_zip, okI_enu, okI_slot, ok_pass, ok_brk, ok_cont, ok_expr, ok_set, ok_par, ok_unp, ok_augA, ok_seti, ok_setf, ok_app, ok_ifS, ok_for, ok_whl, ok_ret, late_k, late_op, late_and_, late_or_, late_not_, late_ite, late_chain, late_call, late_fld, late_met, late_sl, late_lc, late_pop, late_mv, late_callK, late_mkK, late_v, late_nil, get_c0, get_cs, List.set_cons_zero, List.set_cons_succ, stK_n, setKs_nil, setKs_n, Option.bind_some, Option.map_some, Option.some.injEq, exists_eq_left', exists_eq_left, pr_call, pr_fi, List.append_nil, List.cons_append, List.nil_append, List.map_cons, List.map_nil, List.replicate_succ, List.replicate_zero, D.int.injEq, D.bl.injEq, D.lst.injEq, D.str.injEq, D.tup.injEq, pd_addI, pd_sub, pd_eqI, pd_eqB, pd_eqS, pd_neI, pd_neB, pd_neS, pd_ltI, pd_leI, pd_gtI, pd_geI, pd_leS, pd_isN, pd_intI, pd_list, pd_listT, pd_tuple, pd_dct, truth, isNonD, reduceCtorEq, if_true, if_false, reduceIte, Bool.false_eq_true, Bool.not_true, Bool.not_false, List.length_cons, List.length_nil, true_and, and_true, exists_const, exists_eq', List.headD_cons, pd_l0, pd_t0, pd_l1, pd_t1, pd_l2, pd_t2, pd_l3, pd_t3, pd_l4, pd_t4, pd_l5, pd_t5, pd_l6, pd_t6, pd_l7, pd_t7, pd_l8, pd_t8, pd_l9, pd_t9, pd_l10, pd_t10, pd_l11, pd_t11, pd_l12, pd_t12, exists_eq, ixOf, Int.reduceLE, Int.reduceLT, Int.reduceToNat, Int.reducePow, Int.reduceNeg, Int.reduceAdd, Int.reduceMul, Int.reduceSub, Nat.reduceLT, Nat.reduceAdd, Nat.reduceLeDiff, Nat.reduceSub, Nat.reduceMul, List.getElem?_cons_zero, List.getElem?_cons_succ, decide_true, decide_false, Int.reduceBEq, Nat.reduceBEq, Nat.reduceEqDiff, dfPull, pd_idxL]
    split
    · refine st_go ?_
      simp only [ok_v, ok_k, ok_op, ok_and, ok_or, ok_not, ok_if, ok_chain, ok_call, ok_callK, ok_mkK, ok_fld, ok_met, ok_sl, ok_mv, ok_lc, ok_pop, ok_es0, ok_es, ok_o0, ok_o1, okT_and, okT_or, okT_not, okT_k, okT_op, okT_ite, okT_chain, okT_call, okT_fld, okT_lc, okT_pop, okT_callK, okT_v, okTs0, okTs1, okI_val, okI_rng, okI_rng2, okI_zip, okI_enu, okI_slot, ok_pass, ok_brk, ok_cont, ok_expr, ok_set, ok_par, ok_unp, ok_augA, ok_seti, ok_setf, ok_app, ok_ifS, ok_for, ok_whl, ok_ret, late_k, late_op, late_and_, late_or_, late_not_, late_ite, late_chain, late_call, late_fld, late_met, late_sl, late_lc, late_pop, late_mv, late_callK, late_mkK, late_v, late_nil, get_c0, get_cs, List.set_cons_zero, List.set_cons_succ, stK_n, setKs_nil, setKs_n, Option.bind_some, Option.map_some, Option.some.injEq, exists_eq_left', exists_eq_left, pr_call, pr_fi, List.append_nil, List.cons_append, List.nil_append, List.map_cons, List.map_nil, List.replicate_succ, List.replicate_zero, D.int.injEq, D.bl.injEq, D.lst.injEq, D.str.injEq, D.tup.injEq, pd_addI, pd_sub, pd_eqI, pd_eqB, pd_eqS, pd_neI, pd_neB, pd_neS, pd_ltI, pd_leI, pd_gtI, pd_geI, pd_leS, pd_isN, pd_intI, pd_list, pd_listT, pd_tuple, pd_dct, truth, isNonD, reduceCtorEq, if_true, if_false, reduceIte, Bool.false_eq_true, Bool.not_true, Bool.not_false, List.length_cons, List.length_nil, true_and, and_true, exists_const, exists_eq', List.headD_cons, pd_l0, pd_t0, pd_l1, pd_t1, pd_l2, pd_t2, pd_l3, pd_t3, pd_l4, pd_t4, pd_l5, pd_t5, pd_l6, pd_t6, pd_l7, pd_t7, pd_l8, pd_t8, pd_l9, pd_t9, pd_l10, pd_t10, pd_l11, pd_t11, pd_l12, pd_t12, exists_eq, ixOf, Int.reduceLE, Int.reduceLT, Int.reduceToNat, Int.reducePow, Int.reduceNeg, Int.reduceAdd, Int.reduceMul, Int.reduceSub, Nat.reduceLT, Nat.reduceAdd, Nat.reduceLeDiff, Nat.reduceSub, Nat.reduceMul, List.getElem?_cons_zero, List.getElem?_cons_succ, decide_true, decide_false, Int.reduceBEq, Nat.reduceBEq, Nat.reduceEqDiff, pd_idxL, pd_mod h0]
      refine st_nx ?_
      simp only [ok_v, ok_k, ok_op, ok_and, ok_or, ok_not, ok_if, ok_chain, ok_call, ok_callK, ok_mkK, ok_fld, ok_met, ok_sl, ok_mv, ok_lc, ok_pop, ok_es0, ok_es, ok_o0, ok_o1, okT_and, okT_or, okT_not, okT_k, okT_op, okT_ite, okT_chain, okT_call, okT_fld, okT_lc, okT_pop, okT_callK, okT_v, okTs0, okTs1, okI_val, okI_rng, okI_rng2, okI_zip, okI_enu, okI_slot, ok_pass, ok_brk, ok_cont, ok_expr, ok_set, ok_par, ok_unp, ok_augA, ok_seti, ok_setf, ok_app, ok_ifS, ok_for, ok_whl, ok_ret, late_k, late_op, late_and_, late_or_, late_not_, late_ite, late_chain, late_call, late_fld, late_met, late_sl, late_lc, late_pop, late_mv, late_callK, late_mkK, late_v, late_nil, get_c0, get_cs, List.set_cons_zero, List.set_cons_succ, stK_n, setKs_nil, setKs_n, Option.bind_some, Option.map_some, Option.some.injEq, exists_eq_left', exists_eq_left, pr_call, pr_fi, List.append_nil, List.cons_append, List.nil_append, List.map_cons, List.map_nil, List.replicate_succ, List.replicate_zero, D.int.injEq, D.bl.injEq, D.lst.injEq, D.str.injEq, D.tup.injEq, pd_addI, pd_sub, pd_eqI, pd_eqB, pd_eqS, pd_neI, pd_neB, pd_neS, pd_ltI, pd_leI, pd_gtI, pd_geI, pd_leS, pd_isN, pd_intI, pd_list, pd_listT, pd_tuple, pd_dct, truth, isNonD, reduceCtorEq, if_true, if_false, reduceIte, Bool.false_eq_true, Bool.not_true, Bool.not_false, List.length_cons, List.length_nil, true_and, and_true, exists_const, exists_eq', List.headD_cons, pd_l0, pd_t0, pd_l1, pd_t1, pd_l2, pd_t2, pd_l3, pd_t3, pd_l4, pd_t4, pd_l5, pd_t5, pd_l6, pd_t6, pd_l7, pd_t7, pd_l8, pd_t8, pd_l9, pd_t9, pd_l10, pd_t10, pd_l11, pd_t11, pd_l12, pd_t12, exists_eq, ixOf, Int.reduceLE, Int.reduceLT, Int.reduceToNat, Int.reducePow, Int.reduceNeg, Int.reduceAdd, Int.reduceMul, Int.reduceSub, Nat.reduceLT, Nat.reduceAdd, Nat.reduceLeDiff, Nat.reduceSub, Nat.reduceMul, List.getElem?_cons_zero, List.getElem?_cons_succ, decide_true, decide_false, Int.reduceBEq, Nat.reduceBEq, Nat.reduceEqDiff, pd_idxL, pd_fdv h0 (log_int (k := 9000) (Int.le_of_lt h0) (Int.lt_trans h1 (by decide +kernel)) (by decide))]
      refine st_nx ?_
      simp only [ok_v, ok_k, ok_op, ok_and, ok_or, ok_not, ok_if, ok_chain, ok_call, ok_callK, ok_mkK, ok_fld, ok_met, ok_sl, ok_mv, ok_lc, ok_pop, ok_es0, ok_es, ok_o0, ok_o1, okT_and, okT_or, okT_not, okT_k, okT_op, okT_ite, okT_chain, okT_call, okT_fld, okT_lc, okT_pop, okT_callK, okT_v, okTs0, okTs1, okI_val, okI_rng, okI_rng2, okI_zip, okI_enu, okI_slot, ok_pass, ok_brk, ok_cont, ok_expr, ok_set, ok_par, ok_unp, ok_augA, ok_seti, ok_setf, ok_app, ok_ifS, ok_for, ok_whl, ok_ret, late_k, late_op, late_and_, late_or_, late_not_, late_ite, late_chain, late_call, late_fld, late_met, late_sl, late_lc, late_pop, late_mv, late_callK, late_mkK, late_v, late_nil, get_c0, get_cs, List.set_cons_zero, List.set_cons_succ, stK_n, setKs_nil, setKs_n, Option.bind_some, Option.map_some, Option.some.injEq, exists_eq_left', exists_eq_left, pr_call, pr_fi, List.append_nil, List.cons_append, List.nil_append, List.map_cons, List.map_nil, List.replicate_succ, List.replicate_zero, D.int.injEq, D.bl.injEq, D.lst.injEq, D.str.injEq, D.tup.injEq, pd_addI, pd_sub, pd_eqI, pd_eqB, pd_eqS, pd_neI, pd_neB, pd_neS, pd_ltI, pd_leI, pd_gtI, pd_geI, pd_leS, pd_isN, pd_intI, pd_list, pd_listT, pd_tuple, pd_dct, truth, isNonD, reduceCtorEq, if_true, if_false, reduceIte, Bool.false_eq_true, Bool.not_true, Bool.not_false, List.length_cons, List.length_nil, true_and, and_true, exists_const, exists_eq', List.headD_cons, pd_l0, pd_t0, pd_l1, pd_t1, pd_l2, pd_t2, pd_l3, pd_t3, pd_l4, pd_t4, pd_l5, pd_t5, pd_l6, pd_t6, pd_l7, pd_t7, pd_l8, pd_t8, pd_l9, pd_t9, pd_l10, pd_t10, pd_l11, pd_t11, pd_l12, pd_t12, exists_eq, ixOf, Int.reduceLE, Int.reduceLT, Int.reduceToNat, Int.reducePow, Int.reduceNeg, Int.reduceAdd, Int.reduceMul, Int.reduceSub, Nat.reduceLT, Nat.reduceAdd, Nat.reduceLeDiff, Nat.reduceSub, Nat.reduceMul, List.getElem?_cons_zero, List.getElem?_cons_succ, decide_true, decide_false, Int.reduceBEq, Nat.reduceBEq, Nat.reduceEqDiff]
      refine ⟨_, _, rfl, rfl, Int.emod_nonneg _ (Int.ne_of_gt h0), Int.emod_lt_of_pos _ h0, xs, a, b / m, c, d + 1, rfl, hx, ha, Int.ediv_nonneg hb0 (Int.le_of_lt h0), hc, hc2, by omega, by omega⟩
    · refine st_end0 ?_
      refine st_nx ?_
      simp only [ok_v, ok_k, ok_op, ok_and, ok_or, ok_not, ok_if, ok_chain, ok_call, ok_callK, ok_mkK, ok_fld, ok_met, ok_sl, ok_mv, ok_lc, ok_pop, ok_es0, ok_es, ok_o0, ok_o1, okT_and, okT_or, okT_not, okT_k, okT_op, okT_ite, okT_chain, okT_call, okT_fld, okT_lc, okT_pop, okT_callK, okT_v, okTs0, okTs1, okI_val, okI_rng, okI_rng2, okI_zip, okI_enu, okI_slot, ok_pass, ok_brk, ok_cont, ok_expr, ok_set, ok_par, ok_unp, ok_augA, ok_seti, ok_setf, ok_app, ok_ifS, ok_for, ok_whl, ok_ret, late_k, late_op, late_and_, late_or_, late_not_, late_ite, late_chain, late_call, late_fld, late_met, late_sl, late_lc, late_pop, late_mv, late_callK, late_mkK, late_v, late_nil, get_c0, get_cs, List.set_cons_zero, List.set_cons_succ, stK_n, setKs_nil, setKs_n, Option.bind_some, Option.map_some, Option.some.injEq, exists_eq_left', exists_eq_left, pr_call, pr_fi, List.append_nil, List.cons_append, List.nil_append, List.map_cons, List.map_nil, List.replicate_succ, List.replicate_zero, D.int.injEq, D.bl.injEq, D.lst.injEq, D.str.injEq, D.tup.injEq, pd_addI, pd_sub, pd_eqI, pd_eqB, pd_eqS, pd_neI, pd_neB, pd_neS, pd_ltI, pd_leI, pd_gtI, pd_geI, pd_leS, pd_isN, pd_intI, pd_list, pd_listT, pd_tuple, pd_dct, truth, isNonD, reduceCtorEq, if_true, if_false, reduceIte, Bool.false_eq_true, Bool.not_true, Bool.not_false, List.length_cons, List.length_nil, true_and, and_true, exists_const, exists_eq', List.headD_cons, pd_l0, pd_t0, pd_l1, pd_t1, pd_l2, pd_t2, pd_l3, pd_t3, pd_l4, pd_t4, pd_l5, pd_t5, pd_l6, pd_t6, pd_l7, pd_t7, pd_l8, pd_t8, pd_l9, pd_t9, pd_l10, pd_t10, pd_l11, pd_t11, pd_l12, pd_t12, exists_eq, ixOf, Int.reduceLE, Int.reduceLT, Int.reduceToNat, Int.reducePow, Int.reduceNeg, Int.reduceAdd, Int.reduceMul, Int.reduceSub, Nat.reduceLT, Nat.reduceAdd, Nat.reduceLeDiff, Nat.reduceSub, Nat.reduceMul, List.getElem?_cons_zero, List.getElem?_cons_succ, decide_true, decide_false, Int.reduceBEq, Nat.reduceBEq, Nat.reduceEqDiff, pd_idxL]
      refine st_nx ?_
      have l1 : c.natAbs.log2 < 100 := log_int hc (Int.lt_trans hc2 (by decide +kernel)) (by decide)
      have l2 : (d + 1).natAbs.log2 < 100 := log_int (by omega) (Int.lt_of_le_of_lt (b := 2000000) (by omega) (by decide +kernel)) (by decide)
      have e3 : pD .pow [.int c, .int 3] = some (.int (c ^ 3)) := by rw [pd_pow ⟨by decide, by decide, by omega⟩]; rfl
      have e4 : pD .mul [.int c, .int 38993] = some (.int (c * 38993)) := pd_mulI (by rw [show (38993 : Int).natAbs.log2 = 15 by decide +kernel]; omega)
      have e5 : pD .mul [.int (d + 1), .int 1299721] = some (.int ((d + 1) * 1299721)) := pd_mulI (by rw [show (1299721 : Int).natAbs.log2 = 20 by decide +kernel]; omega)
      simp only [ok_v, ok_k, ok_op, ok_and, ok_or, ok_not, ok_if, ok_chain, ok_call, ok_callK, ok_mkK, ok_fld, ok_met, ok_sl, ok_mv, ok_lc, ok_pop, ok_es0, ok_es, ok_o0, ok_o1, okT_and, okT_or, okT_not, okT_k, okT_op, okT_ite, okT_chain, okT_call, okT_fld, okT_lc, okT_pop, okT_callK, okT_v, okTs0, okTs1, okI_val, okI_rng, okI_rng2, okI_zip, okI_enu, okI_slot, ok_pass, ok_brk, ok_cont, ok_expr, ok_set, ok_par, ok_unp, ok_augA, ok_seti, ok_setf, ok_app, ok_ifS, ok_for, ok_whl, ok_ret, late_k, late_op, late_and_, late_or_, late_not_, late_ite, late_chain, late_call, late_fld, late_met, late_sl, late_lc, late_pop, late_mv, late_callK, late_mkK, late_v, late_nil, get_c0, get_cs, List.set_cons_zero, List.set_cons_succ, stK_n, setKs_nil, setKs_n, Option.bind_some, Option.map_some, Option.some.injEq, exists_eq_left', exists_eq_left, pr_call, pr_fi, List.append_nil, List.cons_append, List.nil_append, List.map_cons, List.map_nil, List.replicate_succ, List.replicate_zero, D.int.injEq, D.bl.injEq, D.lst.injEq, D.str.injEq, D.tup.injEq, pd_addI, pd_sub, pd_eqI, pd_eqB, pd_eqS, pd_neI, pd_neB, pd_neS, pd_ltI, pd_leI, pd_gtI, pd_geI, pd_leS, pd_isN, pd_intI, pd_list, pd_listT, pd_tuple, pd_dct, truth, isNonD, reduceCtorEq, if_true, if_false, reduceIte, Bool.false_eq_true, Bool.not_true, Bool.not_false, List.length_cons, List.length_nil, true_and, and_true, exists_const, exists_eq', List.headD_cons, pd_l0, pd_t0, pd_l1, pd_t1, pd_l2, pd_t2, pd_l3, pd_t3, pd_l4, pd_t4, pd_l5, pd_t5, pd_l6, pd_t6, pd_l7, pd_t7, pd_l8, pd_t8, pd_l9, pd_t9, pd_l10, pd_t10, pd_l11, pd_t11, pd_l12, pd_t12, exists_eq, ixOf, Int.reduceLE, Int.reduceLT, Int.reduceToNat, Int.reducePow, Int.reduceNeg, Int.reduceAdd, Int.reduceMul, Int.reduceSub, Nat.reduceLT, Nat.reduceAdd, Nat.reduceLeDiff, Nat.reduceSub, Nat.reduceMul, List.getElem?_cons_zero, List.getElem?_cons_succ, decide_true, decide_false, Int.reduceBEq, Nat.reduceBEq, Nat.reduceEqDiff, pd_idxL, e3, e4, e5, pd_mod (show (0 : Int) < 2147483353 by decide)]
      refine st_nx ?_
      generalize hg : (c ^ 3 + c * 38993 + (d + 1) * 1299721 + 70507) % 2147483353 = c'
      have c1 : 0 ≤ c' := by omega
      have c2 : c' < 2147483353 := by omega
      have e6 : pD .fdv [.int c', .int 89] = some (.int (c' / 89)) := pd_fdv (by decide) (by decide +kernel)
      have e7 : pD .mul [.int (c' % 7907), .int 61] = some (.int (c' % 7907 * 61)) := pd_mulI (by
        have : (c' % 7907).natAbs.log2 < 20 := log_int (by omega) (Int.lt_trans (b := 7907) (by omega) (by decide)) (by decide)
        rw [show (61 : Int).natAbs.log2 = 5 by decide +kernel]; omega)
      simp only [ok_v, ok_k, ok_op, ok_and, ok_or, ok_not, ok_if, ok_chain, ok_call, ok_callK, ok_mkK, ok_fld, ok_met, ok_sl, ok_mv, ok_lc, ok_pop, ok_es0, ok_es, ok_o0, ok_o1, okT_and, okT_or, okT_not, okT_k, okT_op, okT_ite, okT_chain, okT_call, okT_fld, okT_lc, okT_pop, okT_callK, okT_v, okTs0, okTs1, okI_val, okI_rng, okI_rng2, okI_zip, okI_enu, okI_slot, ok_pass, ok_brk, ok_cont, ok_expr, ok_set, ok_par, ok_unp, ok_augA, ok_seti, ok_setf, ok_app, ok_ifS, ok_for, ok_whl, ok_ret, late_k, late_op, late_and_, late_or_, late_not_, late_ite, late_chain, late_call, late_fld, late_met, late_sl, late_lc, late_pop, late_mv, late_callK, late_mkK, late_v, late_nil, get_c0, get_cs, List.set_cons_zero, List.set_cons_succ, stK_n, setKs_nil, setKs_n, Option.bind_some, Option.map_some, Option.some.injEq, exists_eq_left', exists_eq_left, pr_call, pr_fi, List.append_nil, List.cons_append, List.nil_append, List.map_cons, List.map_nil, List.replicate_succ, List.replicate_zero, D.int.injEq, D.bl.injEq, D.lst.injEq, D.str.injEq, D.tup.injEq, pd_addI, pd_sub, pd_eqI, pd_eqB, pd_eqS, pd_neI, pd_neB, pd_neS, pd_ltI, pd_leI, pd_gtI, pd_geI, pd_leS, pd_isN, pd_intI, pd_list, pd_listT, pd_tuple, pd_dct, truth, isNonD, reduceCtorEq, if_true, if_false, reduceIte, Bool.false_eq_true, Bool.not_true, Bool.not_false, List.length_cons, List.length_nil, true_and, and_true, exists_const, exists_eq', List.headD_cons, pd_l0, pd_t0, pd_l1, pd_t1, pd_l2, pd_t2, pd_l3, pd_t3, pd_l4, pd_t4, pd_l5, pd_t5, pd_l6, pd_t6, pd_l7, pd_t7, pd_l8, pd_t8, pd_l9, pd_t9, pd_l10, pd_t10, pd_l11, pd_t11, pd_l12, pd_t12, exists_eq, ixOf, Int.reduceLE, Int.reduceLT, Int.reduceToNat, Int.reducePow, Int.reduceNeg, Int.reduceAdd, Int.reduceMul, Int.reduceSub, Nat.reduceLT, Nat.reduceAdd, Nat.reduceLeDiff, Nat.reduceSub, Nat.reduceMul, List.getElem?_cons_zero, List.getElem?_cons_succ, decide_true, decide_false, Int.reduceBEq, Nat.reduceBEq, Nat.reduceEqDiff, pd_idxL, e6, e7, pd_mod (show (0 : Int) < 7907 by decide), pd_mod h0]
      exact ⟨_, _, rfl, rfl, Int.emod_nonneg _ (Int.ne_of_gt h0), Int.emod_lt_of_pos _ h0, xs, a, b, c', d + 1, rfl, hx, ha, hb0, c1, c2, by omega, by omega⟩
  refine callN_ok h rfl ?_
  refine st_go ?_
  simp only [ok_v, ok_k, ok_op, ok_and, ok_or, ok_not, ok_if, ok_chain, ok_call, ok_callK, ok_mkK, ok_fld, ok_met, ok_sl, ok_mv, ok_lc, ok_pop, ok_es0, ok_es, ok_o0, ok_o1, okT_and, okT_or, okT_not, okT_k, okT_op, okT_ite, okT_chain, okT_call, okT_fld, okT_lc, okT_pop, okT_callK, okT_v, okTs0, okTs1, okI_val, okI_rng, okI_rng2, okI_zip, okI_enu, okI_slot, ok_pass, ok_brk, ok_cont, ok_expr, ok_set, ok_par, ok_unp, ok_augA, ok_seti, ok_setf, ok_app, ok_ifS, ok_for, ok_whl, ok_ret, late_k, late_op, late_and_, late_or_, late_not_, late_ite, late_chain, late_call, late_fld, late_met, late_sl, late_lc, late_pop, late_mv, late_callK, late_mkK, late_v, late_nil, get_c0, get_cs, List.set_cons_zero, List.set_cons_succ, stK_n, setKs_nil, setKs_n, Option.bind_some, Option.map_some, Option.some.injEq, exists_eq_left', exists_eq_left, pr_call, pr_fi, List.append_nil, List.cons_append, List.nil_append, List.map_cons, List.map_nil, List.replicate_succ, List.replicate_zero, D.int.injEq, D.bl.injEq, D.lst.injEq, D.str.injEq, D.tup.injEq, pd_addI, pd_sub, pd_eqI, pd_eqB, pd_eqS, pd_neI, pd_neB, pd_neS, pd_ltI, pd_leI, pd_gtI, pd_geI, pd_leS, pd_isN, pd_intI, pd_list, pd_listT, pd_tuple, pd_dct, truth, isNonD, reduceCtorEq, if_true, if_false, reduceIte, Bool.false_eq_true, Bool.not_true, Bool.not_false, List.length_cons, List.length_nil, true_and, and_true, exists_const, exists_eq', List.headD_cons, pd_l0, pd_t0, pd_l1, pd_t1, pd_l2, pd_t2, pd_l3, pd_t3, pd_l4, pd_t4, pd_l5, pd_t5, pd_l6, pd_t6, pd_l7, pd_t7, pd_l8, pd_t8, pd_l9, pd_t9, pd_l10, pd_t10, pd_l11, pd_t11, pd_l12, pd_t12, exists_eq, ixOf, Int.reduceLE, Int.reduceLT, Int.reduceToNat, Int.reducePow, Int.reduceNeg, Int.reduceAdd, Int.reduceMul, Int.reduceSub, Nat.reduceLT, Nat.reduceAdd, Nat.reduceLeDiff, Nat.reduceSub, Nat.reduceMul, List.getElem?_cons_zero, List.getElem?_cons_succ, decide_true, decide_false, Int.reduceBEq, Nat.reduceBEq, Nat.reduceEqDiff, dfPull, pd_idxL]
  refine st_nx ?_
  simp only [ok_v, ok_k, ok_op, ok_and, ok_or, ok_not, ok_if, ok_chain, ok_call, ok_callK, ok_mkK, ok_fld, ok_met, ok_sl, ok_mv, ok_lc, ok_pop, ok_es0, ok_es, ok_o0, ok_o1, okT_and, okT_or, okT_not, okT_k, okT_op, okT_ite, okT_chain, okT_call, okT_fld, okT_lc, okT_pop, okT_callK, okT_v, okTs0, okTs1, okI_val, okI_rng, okI_rng2, okI_zip, okI_enu, okI_slot, ok_pass, ok_brk, ok_cont, ok_expr, ok_set, ok_par, ok_unp, ok_augA, ok_seti, ok_setf, ok_app, ok_ifS, ok_for, ok_whl, ok_ret, late_k, late_op, late_and_, late_or_, late_not_, late_ite, late_chain, late_call, late_fld, late_met, late_sl, late_lc, late_pop, late_mv, late_callK, late_mkK, late_v, late_nil, get_c0, get_cs, List.set_cons_zero, List.set_cons_succ, stK_n, setKs_nil, setKs_n, Option.bind_some, Option.map_some, Option.some.injEq, exists_eq_left', exists_eq_left, pr_call, pr_fi, List.append_nil, List.cons_append, List.nil_append, List.map_cons, List.map_nil, List.replicate_succ, List.replicate_zero, D.int.injEq, D.bl.injEq, D.lst.injEq, D.str.injEq, D.tup.injEq, pd_addI, pd_sub, pd_eqI, pd_eqB, pd_eqS, pd_neI, pd_neB, pd_neS, pd_ltI, pd_leI, pd_gtI, pd_geI, pd_leS, pd_isN, pd_intI, pd_list, pd_listT, pd_tuple, pd_dct, truth, isNonD, reduceCtorEq, if_true, if_false, reduceIte, Bool.false_eq_true, Bool.not_true, Bool.not_false, List.length_cons, List.length_nil, true_and, and_true, exists_const, exists_eq', List.headD_cons, pd_l0, pd_t0, pd_l1, pd_t1, pd_l2, pd_t2, pd_l3, pd_t3, pd_l4, pd_t4, pd_l5, pd_t5, pd_l6, pd_t6, pd_l7, pd_t7, pd_l8, pd_t8, pd_l9, pd_t9, pd_l10, pd_t10, pd_l11, pd_t11, pd_l12, pd_t12, exists_eq, ixOf, Int.reduceLE, Int.reduceLT, Int.reduceToNat, Int.reducePow, Int.reduceNeg, Int.reduceAdd, Int.reduceMul, Int.reduceSub, Nat.reduceLT, Nat.reduceAdd, Nat.reduceLeDiff, Nat.reduceSub, Nat.reduceMul, List.getElem?_cons_zero, List.getElem?_cons_succ, decide_true, decide_false, Int.reduceBEq, Nat.reduceBEq, Nat.reduceEqDiff, pd_idxL, pd_lenL hs, List.set_cons_zero, List.set_cons_succ, List.length_map]
  split
  · rename_i hz
    have hz : b = 0 := by simpa using hz
    subst hz
    split
    · rename_i hl
      have hl : a < xs.length := of_decide_eq_true hl
      obtain ⟨v, hv, _⟩ := bag_at ha hl
      refine st_go ?_
      simp only [ok_v, ok_k, ok_op, ok_and, ok_or, ok_not, ok_if, ok_chain, ok_call, ok_callK, ok_mkK, ok_fld, ok_met, ok_sl, ok_mv, ok_lc, ok_pop, ok_es0, ok_es, ok_o0, ok_o1, okT_and, okT_or, okT_not, okT_k, okT_op, okT_ite, okT_chain, okT_call, okT_fld, okT_lc, okT_pop, okT_callK, okT_v, okTs0, okTs1, okI_val, okI_rng, okI_rng2, okI_zip, okI_enu, okI_slot, ok_pass, ok_brk, ok_cont, ok_expr, ok_set, ok_par, ok_unp, ok_augA, ok_seti, ok_setf, ok_app, ok_ifS, ok_for, ok_whl, ok_ret, late_k, late_op, late_and_, late_or_, late_not_, late_ite, late_chain, late_call, late_fld, late_met, late_sl, late_lc, late_pop, late_mv, late_callK, late_mkK, late_v, late_nil, get_c0, get_cs, List.set_cons_zero, List.set_cons_succ, stK_n, setKs_nil, setKs_n, Option.bind_some, Option.map_some, Option.some.injEq, exists_eq_left', exists_eq_left, pr_call, pr_fi, List.append_nil, List.cons_append, List.nil_append, List.map_cons, List.map_nil, List.replicate_succ, List.replicate_zero, D.int.injEq, D.bl.injEq, D.lst.injEq, D.str.injEq, D.tup.injEq, pd_addI, pd_sub, pd_eqI, pd_eqB, pd_eqS, pd_neI, pd_neB, pd_neS, pd_ltI, pd_leI, pd_gtI, pd_geI, pd_leS, pd_isN, pd_intI, pd_list, pd_listT, pd_tuple, pd_dct, truth, isNonD, reduceCtorEq, if_true, if_false, reduceIte, Bool.false_eq_true, Bool.not_true, Bool.not_false, List.length_cons, List.length_nil, true_and, and_true, exists_const, exists_eq', List.headD_cons, pd_l0, pd_t0, pd_l1, pd_t1, pd_l2, pd_t2, pd_l3, pd_t3, pd_l4, pd_t4, pd_l5, pd_t5, pd_l6, pd_t6, pd_l7, pd_t7, pd_l8, pd_t8, pd_l9, pd_t9, pd_l10, pd_t10, pd_l11, pd_t11, pd_l12, pd_t12, exists_eq, ixOf, Int.reduceLE, Int.reduceLT, Int.reduceToNat, Int.reducePow, Int.reduceNeg, Int.reduceAdd, Int.reduceMul, Int.reduceSub, Nat.reduceLT, Nat.reduceAdd, Nat.reduceLeDiff, Nat.reduceSub, Nat.reduceMul, List.getElem?_cons_zero, List.getElem?_cons_succ, decide_true, decide_false, Int.reduceBEq, Nat.reduceBEq, Nat.reduceEqDiff, pd_idxL (xs := _ :: _), hv]
      refine st_nx ?_
      simp only [ok_v, ok_k, ok_op, ok_and, ok_or, ok_not, ok_if, ok_chain, ok_call, ok_callK, ok_mkK, ok_fld, ok_met, ok_sl, ok_mv, ok_lc, ok_pop, ok_es0, ok_es, ok_o0, ok_o1, okT_and, okT_or, okT_not, okT_k, okT_op, okT_ite, okT_chain, okT_call, okT_fld, okT_lc, okT_pop, okT_callK, okT_v, okTs0, okTs1, okI_val, okI_rng, okI_rng2, okI_zip, okI_enu, okI_slot, ok_pass, ok_brk, ok_cont, ok_expr, ok_set, ok_par, ok_unp, ok_augA, ok_seti, ok_setf, ok_app, ok_ifS, ok_for, ok_whl, ok_ret, late_k, late_op, late_and_, late_or_, late_not_, late_ite, late_chain, late_call, late_fld, late_met, late_sl, late_lc, late_pop, late_mv, late_callK, late_mkK, late_v, late_nil, get_c0, get_cs, List.set_cons_zero, List.set_cons_succ, stK_n, setKs_nil, setKs_n, Option.bind_some, Option.map_some, Option.some.injEq, exists_eq_left', exists_eq_left, pr_call, pr_fi, List.append_nil, List.cons_append, List.nil_append, List.map_cons, List.map_nil, List.replicate_succ, List.replicate_zero, D.int.injEq, D.bl.injEq, D.lst.injEq, D.str.injEq, D.tup.injEq, pd_addI, pd_sub, pd_eqI, pd_eqB, pd_eqS, pd_neI, pd_neB, pd_neS, pd_ltI, pd_leI, pd_gtI, pd_geI, pd_leS, pd_isN, pd_intI, pd_list, pd_listT, pd_tuple, pd_dct, truth, isNonD, reduceCtorEq, if_true, if_false, reduceIte, Bool.false_eq_true, Bool.not_true, Bool.not_false, List.length_cons, List.length_nil, true_and, and_true, exists_const, exists_eq', List.headD_cons, pd_l0, pd_t0, pd_l1, pd_t1, pd_l2, pd_t2, pd_l3, pd_t3, pd_l4, pd_t4, pd_l5, pd_t5, pd_l6, pd_t6, pd_l7, pd_t7, pd_l8, pd_t8, pd_l9, pd_t9, pd_l10, pd_t10, pd_l11, pd_t11, pd_l12, pd_t12, exists_eq, ixOf, Int.reduceLE, Int.reduceLT, Int.reduceToNat, Int.reducePow, Int.reduceNeg, Int.reduceAdd, Int.reduceMul, Int.reduceSub, Nat.reduceLT, Nat.reduceAdd, Nat.reduceLeDiff, Nat.reduceSub, Nat.reduceMul, List.getElem?_cons_zero, List.getElem?_cons_succ, decide_true, decide_false, Int.reduceBEq, Nat.reduceBEq, Nat.reduceEqDiff, pd_idxL]
      refine st_nx ?_
      simp only [ok_v, ok_k, ok_op, ok_and, ok_or, ok_not, ok_if, ok_chain, ok_call, ok_callK, ok_mkK, ok_fld, ok_met, ok_sl, ok_mv, ok_lc, ok_pop, ok_es0, ok_es, ok_o0, ok_o1, okT_and, okT_or, okT_not, okT_k, okT_op, okT_ite, okT_chain, okT_call, okT_fld, okT_lc, okT_pop, okT_callK, okT_v, okTs0, okTs1, okI_val, okI_rng, okI_rng2, okI_zip, okI_enu, okI_slot, ok_pass, ok_brk, ok_cont, ok_expr, ok_set, ok_par, ok_unp, ok_augA, ok_seti, ok_setf, ok_app, ok_ifS, ok_for, ok_whl, ok_ret, late_k, late_op, late_and_, late_or_, late_not_, late_ite, late_chain, late_call, late_fld, late_met, late_sl, late_lc, late_pop, late_mv, late_callK, late_mkK, late_v, late_nil, get_c0, get_cs, List.set_cons_zero, List.set_cons_succ, stK_n, setKs_nil, setKs_n, Option.bind_some, Option.map_some, Option.some.injEq, exists_eq_left', exists_eq_left, pr_call, pr_fi, List.append_nil, List.cons_append, List.nil_append, List.map_cons, List.map_nil, List.replicate_succ, List.replicate_zero, D.int.injEq, D.bl.injEq, D.lst.injEq, D.str.injEq, D.tup.injEq, pd_addI, pd_sub, pd_eqI, pd_eqB, pd_eqS, pd_neI, pd_neB, pd_neS, pd_ltI, pd_leI, pd_gtI, pd_geI, pd_leS, pd_isN, pd_intI, pd_list, pd_listT, pd_tuple, pd_dct, truth, isNonD, reduceCtorEq, if_true, if_false, reduceIte, Bool.false_eq_true, Bool.not_true, Bool.not_false, List.length_cons, List.length_nil, true_and, and_true, exists_const, exists_eq', List.headD_cons, pd_l0, pd_t0, pd_l1, pd_t1, pd_l2, pd_t2, pd_l3, pd_t3, pd_l4, pd_t4, pd_l5, pd_t5, pd_l6, pd_t6, pd_l7, pd_t7, pd_l8, pd_t8, pd_l9, pd_t9, pd_l10, pd_t10, pd_l11, pd_t11, pd_l12, pd_t12, exists_eq, ixOf, Int.reduceLE, Int.reduceLT, Int.reduceToNat, Int.reducePow, Int.reduceNeg, Int.reduceAdd, Int.reduceMul, Int.reduceSub, Nat.reduceLT, Nat.reduceAdd, Nat.reduceLeDiff, Nat.reduceSub, Nat.reduceMul, List.getElem?_cons_zero, List.getElem?_cons_succ, decide_true, decide_false, Int.reduceBEq, Nat.reduceBEq, Nat.reduceEqDiff, p18]
      have l1 : c.natAbs.log2 < 100 := log_int hc (Int.lt_trans hc2 (by decide +kernel)) (by decide)
      have l2 : (v % 2147483249).natAbs.log2 < 100 := log_int (by omega) (Int.lt_trans (b := 2147483249) (by omega) (by decide +kernel)) (by decide)
      have e4 : pD .mul [.int c, .int 44021] = some (.int (c * 44021)) := pd_mulI (by rw [show (44021 : Int).natAbs.log2 = 15 by decide +kernel]; omega)
      have e5 : pD .mul [.int (v % 2147483249), .int 52181] = some (.int (v % 2147483249 * 52181)) := pd_mulI (by rw [show (52181 : Int).natAbs.log2 = 15 by decide +kernel]; omega)
      split
      · rename_i hv0
        have hv0 : 1000000000000000000 ≤ v := of_decide_eq_true hv0
        refine st_go ?_
        simp only [ok_v, ok_k, ok_op, ok_and, ok_or, ok_not, ok_if, ok_chain, ok_call, ok_callK, ok_mkK, ok_fld, ok_met, ok_sl, ok_mv, ok_lc, ok_pop, ok_es0, ok_es, ok_o0, ok_o1, okT_and, okT_or, okT_not, okT_k, okT_op, okT_ite, okT_chain, okT_call, okT_fld, okT_lc, okT_pop, okT_callK, okT_v, okTs0, okTs1, okI_val, okI_rng, okI_rng2, okI_zip, okI_enu, okI_slot, ok_pass, ok_brk, ok_cont, ok_expr, ok_set, ok_par, ok_unp, ok_augA, ok_seti, ok_setf, ok_app, ok_ifS, ok_for, ok_whl, ok_ret, late_k, late_op, late_and_, late_or_, late_not_, late_ite, late_chain, late_call, late_fld, late_met, late_sl, late_lc, late_pop, late_mv, late_callK, late_mkK, late_v, late_nil, get_c0, get_cs, List.set_cons_zero, List.set_cons_succ, stK_n, setKs_nil, setKs_n, Option.bind_some, Option.map_some, Option.some.injEq, exists_eq_left', exists_eq_left, pr_call, pr_fi, List.append_nil, List.cons_append, List.nil_append, List.map_cons, List.map_nil, List.replicate_succ, List.replicate_zero, D.int.injEq, D.bl.injEq, D.lst.injEq, D.str.injEq, D.tup.injEq, pd_addI, pd_sub, pd_eqI, pd_eqB, pd_eqS, pd_neI, pd_neB, pd_neS, pd_ltI, pd_leI, pd_gtI, pd_geI, pd_leS, pd_isN, pd_intI, pd_list, pd_listT, pd_tuple, pd_dct, truth, isNonD, reduceCtorEq, if_true, if_false, reduceIte, Bool.false_eq_true, Bool.not_true, Bool.not_false, List.length_cons, List.length_nil, true_and, and_true, exists_const, exists_eq', List.headD_cons, pd_l0, pd_t0, pd_l1, pd_t1, pd_l2, pd_t2, pd_l3, pd_t3, pd_l4, pd_t4, pd_l5, pd_t5, pd_l6, pd_t6, pd_l7, pd_t7, pd_l8, pd_t8, pd_l9, pd_t9, pd_l10, pd_t10, pd_l11, pd_t11, pd_l12, pd_t12, exists_eq, ixOf, Int.reduceLE, Int.reduceLT, Int.reduceToNat, Int.reducePow, Int.reduceNeg, Int.reduceAdd, Int.reduceMul, Int.reduceSub, Nat.reduceLT, Nat.reduceAdd, Nat.reduceLeDiff, Nat.reduceSub, Nat.reduceMul, List.getElem?_cons_zero, List.getElem?_cons_succ, decide_true, decide_false, Int.reduceBEq, Nat.reduceBEq, Nat.reduceEqDiff, pd_idxL]
        refine st_end ?_
        refine st_nx ?_
        simp only [ok_v, ok_k, ok_op, ok_and, ok_or, ok_not, ok_if, ok_chain, ok_call, ok_callK, ok_mkK, ok_fld, ok_met, ok_sl, ok_mv, ok_lc, ok_pop, ok_es0, ok_es, ok_o0, ok_o1, okT_and, okT_or, okT_not, okT_k, okT_op, okT_ite, okT_chain, okT_call, okT_fld, okT_lc, okT_pop, okT_callK, okT_v, okTs0, okTs1, okI_val, okI_rng, okI_rng2, okI_zip, okI_enu, okI_slot, ok_pass, ok_brk, ok_cont, ok_expr, ok_set, ok_par, ok_unp, ok_augA, ok_seti, ok_setf, ok_app, ok_ifS, ok_for, ok_whl, ok_ret, late_k, late_op, late_and_, late_or_, late_not_, late_ite, late_chain, late_call, late_fld, late_met, late_sl, late_lc, late_pop, late_mv, late_callK, late_mkK, late_v, late_nil, get_c0, get_cs, List.set_cons_zero, List.set_cons_succ, stK_n, setKs_nil, setKs_n, Option.bind_some, Option.map_some, Option.some.injEq, exists_eq_left', exists_eq_left, pr_call, pr_fi, List.append_nil, List.cons_append, List.nil_append, List.map_cons, List.map_nil, List.replicate_succ, List.replicate_zero, D.int.injEq, D.bl.injEq, D.lst.injEq, D.str.injEq, D.tup.injEq, pd_addI, pd_sub, pd_eqI, pd_eqB, pd_eqS, pd_neI, pd_neB, pd_neS, pd_ltI, pd_leI, pd_gtI, pd_geI, pd_leS, pd_isN, pd_intI, pd_list, pd_listT, pd_tuple, pd_dct, truth, isNonD, reduceCtorEq, if_true, if_false, reduceIte, Bool.false_eq_true, Bool.not_true, Bool.not_false, List.length_cons, List.length_nil, true_and, and_true, exists_const, exists_eq', List.headD_cons, pd_l0, pd_t0, pd_l1, pd_t1, pd_l2, pd_t2, pd_l3, pd_t3, pd_l4, pd_t4, pd_l5, pd_t5, pd_l6, pd_t6, pd_l7, pd_t7, pd_l8, pd_t8, pd_l9, pd_t9, pd_l10, pd_t10, pd_l11, pd_t11, pd_l12, pd_t12, exists_eq, ixOf, Int.reduceLE, Int.reduceLT, Int.reduceToNat, Int.reducePow, Int.reduceNeg, Int.reduceAdd, Int.reduceMul, Int.reduceSub, Nat.reduceLT, Nat.reduceAdd, Nat.reduceLeDiff, Nat.reduceSub, Nat.reduceMul, List.getElem?_cons_zero, List.getElem?_cons_succ, decide_true, decide_false, Int.reduceBEq, Nat.reduceBEq, Nat.reduceEqDiff, pd_idxL, e4, e5, pd_mod (show (0 : Int) < 2147483353 by decide), pd_mod (show (0 : Int) < 2147483249 by decide)]
        refine st_end ?_
        exact rest (a + 1) v _ _ (by omega) (by omega) (by omega) (by omega)
      · refine st_end0 ?_
        refine st_nx ?_
        simp only [ok_v, ok_k, ok_op, ok_and, ok_or, ok_not, ok_if, ok_chain, ok_call, ok_callK, ok_mkK, ok_fld, ok_met, ok_sl, ok_mv, ok_lc, ok_pop, ok_es0, ok_es, ok_o0, ok_o1, okT_and, okT_or, okT_not, okT_k, okT_op, okT_ite, okT_chain, okT_call, okT_fld, okT_lc, okT_pop, okT_callK, okT_v, okTs0, okTs1, okI_val, okI_rng, okI_rng2, okI_zip, okI_enu, okI_slot, ok_pass, ok_brk, ok_cont, ok_expr, ok_set, ok_par, ok_unp, ok_augA, ok_seti, ok_setf, ok_app, ok_ifS, ok_for, ok_whl, ok_ret, late_k, late_op, late_and_, late_or_, late_not_, late_ite, late_chain, late_call, late_fld, late_met, late_sl, late_lc, late_pop, late_mv, late_callK, late_mkK, late_v, late_nil, get_c0, get_cs, List.set_cons_zero, List.set_cons_succ, stK_n, setKs_nil, setKs_n, Option.bind_some, Option.map_some, Option.some.injEq, exists_eq_left', exists_eq_left, pr_call, pr_fi, List.append_nil, List.cons_append, List.nil_append, List.map_cons, List.map_nil, List.replicate_succ, List.replicate_zero, D.int.injEq, D.bl.injEq, D.lst.injEq, D.str.injEq, D.tup.injEq, pd_addI, pd_sub, pd_eqI, pd_eqB, pd_eqS, pd_neI, pd_neB, pd_neS, pd_ltI, pd_leI, pd_gtI, pd_geI, pd_leS, pd_isN, pd_intI, pd_list, pd_listT, pd_tuple, pd_dct, truth, isNonD, reduceCtorEq, if_true, if_false, reduceIte, Bool.false_eq_true, Bool.not_true, Bool.not_false, List.length_cons, List.length_nil, true_and, and_true, exists_const, exists_eq', List.headD_cons, pd_l0, pd_t0, pd_l1, pd_t1, pd_l2, pd_t2, pd_l3, pd_t3, pd_l4, pd_t4, pd_l5, pd_t5, pd_l6, pd_t6, pd_l7, pd_t7, pd_l8, pd_t8, pd_l9, pd_t9, pd_l10, pd_t10, pd_l11, pd_t11, pd_l12, pd_t12, exists_eq, ixOf, Int.reduceLE, Int.reduceLT, Int.reduceToNat, Int.reducePow, Int.reduceNeg, Int.reduceAdd, Int.reduceMul, Int.reduceSub, Nat.reduceLT, Nat.reduceAdd, Nat.reduceLeDiff, Nat.reduceSub, Nat.reduceMul, List.getElem?_cons_zero, List.getElem?_cons_succ, decide_true, decide_false, Int.reduceBEq, Nat.reduceBEq, Nat.reduceEqDiff, pd_idxL, e4, e5, pd_mod (show (0 : Int) < 2147483353 by decide), pd_mod (show (0 : Int) < 2147483249 by decide)]
        refine st_end ?_
        exact rest (a + 1) 0 _ _ (by omega) (by omega) (by omega) (by omega)
    · refine st_end0 ?_
      exact rest a 0 c none ha hb0 hc hc2
  · refine st_end0 ?_
    exact rest a b c none ha hb0 hc hc2
theorem perm_erase {α : Type} : ∀ {l : List α} {k : Nat} (h : k < l.length), (l[k] :: l.eraseIdx k).Perm l
  | x :: l, 0, h => .refl _
  | x :: l, k + 1, h => have h2 : k < l.length := Nat.lt_of_succ_lt_succ h
    (List.Perm.swap x l[k] _).trans (.cons x (perm_erase (l := l) h2))
theorem fiPull : dfPull.fi = ⟨[.m, .n], false⟩ := rfl
theorem fiAny {j : Nat} : (dfAny j).fi = ⟨[.m, .n], false⟩ := rfl
theorem any_ok {t : D} {k j : Nat} {ds : List D} (h : pg.defs[i]? = some (dfAny j)) (hj : pg.defs[j]? = some dfPull) (hb : Bag k t) (hk : 1 ≤ k) (h0 : ds ≠ []) (h1 : ds.length ≤ 1000000) :
    (pg.callN KK (n + 2) i [t, .lst ds]).Ok fun d o => d ∈ ds ∧ ∃ t', o = [some t', none] ∧ Bag (k - 1) t' := by
  have hp : 0 < ds.length := List.length_pos_iff.mpr h0
  refine callN_ok h rfl ?_
  refine st_go ?_
  simp only [ok_v, ok_k, ok_op, ok_and, ok_or, ok_not, ok_if, ok_chain, ok_call, ok_callK, ok_mkK, ok_fld, ok_met, ok_sl, ok_mv, ok_lc, ok_pop, ok_es0, ok_es, ok_o0, ok_o1, okT_and, okT_or, okT_not, okT_k, okT_op, okT_ite, okT_chain, okT_call, okT_fld, okT_lc, okT_pop, okT_callK, okT_v, okTs0, okTs1, okI_val, okI_rng, okI_rng2, okI_zip, okI_enu, okI_slot, ok_pass, ok_brk, ok_cont, ok_expr, ok_set, ok_par, ok_unp, ok_augA, ok_seti, ok_setf, ok_app, ok_ifS, ok_for, ok_whl, ok_ret, late_k, late_op, late_and_, late_or_, late_not_, late_ite, late_chain, late_call, late_fld, late_met, late_sl, late_lc, late_pop, late_mv, late_callK, late_mkK, late_v, late_nil, get_c0, get_cs, List.set_cons_zero, List.set_cons_succ, stK_n, setKs_nil, setKs_n, Option.bind_some, Option.map_some, Option.some.injEq, exists_eq_left', exists_eq_left, pr_call, pr_fi, List.append_nil, List.cons_append, List.nil_append, List.map_cons, List.map_nil, List.replicate_succ, List.replicate_zero, D.int.injEq, D.bl.injEq, D.lst.injEq, D.str.injEq, D.tup.injEq, pd_addI, pd_sub, pd_eqI, pd_eqB, pd_eqS, pd_neI, pd_neB, pd_neS, pd_ltI, pd_leI, pd_gtI, pd_geI, pd_leS, pd_isN, pd_intI, pd_list, pd_listT, pd_tuple, pd_dct, truth, isNonD, reduceCtorEq, if_true, if_false, reduceIte, Bool.false_eq_true, Bool.not_true, Bool.not_false, List.length_cons, List.length_nil, true_and, and_true, exists_const, exists_eq', List.headD_cons, pd_l0, pd_t0, pd_l1, pd_t1, pd_l2, pd_t2, pd_l3, pd_t3, pd_l4, pd_t4, pd_l5, pd_t5, pd_l6, pd_t6, pd_l7, pd_t7, pd_l8, pd_t8, pd_l9, pd_t9, pd_l10, pd_t10, pd_l11, pd_t11, pd_l12, pd_t12, exists_eq, dfAny, pd_lenL (small_le h1)]
  refine (pull_ok hj hb hk (by omega) (Int.lt_of_le_of_lt (b := 1000000) (by omega) (by decide +kernel))).imp ?_
  rintro _ _ ⟨r, t', rfl, rfl, r0, r1, hb'⟩
  simp only [ok_v, ok_k, ok_op, ok_and, ok_or, ok_not, ok_if, ok_chain, ok_call, ok_callK, ok_mkK, ok_fld, ok_met, ok_sl, ok_mv, ok_lc, ok_pop, ok_es0, ok_es, ok_o0, ok_o1, okT_and, okT_or, okT_not, okT_k, okT_op, okT_ite, okT_chain, okT_call, okT_fld, okT_lc, okT_pop, okT_callK, okT_v, okTs0, okTs1, okI_val, okI_rng, okI_rng2, okI_zip, okI_enu, okI_slot, ok_pass, ok_brk, ok_cont, ok_expr, ok_set, ok_par, ok_unp, ok_augA, ok_seti, ok_setf, ok_app, ok_ifS, ok_for, ok_whl, ok_ret, late_k, late_op, late_and_, late_or_, late_not_, late_ite, late_chain, late_call, late_fld, late_met, late_sl, late_lc, late_pop, late_mv, late_callK, late_mkK, late_v, late_nil, get_c0, get_cs, List.set_cons_zero, List.set_cons_succ, stK_n, setKs_nil, setKs_n, Option.bind_some, Option.map_some, Option.some.injEq, exists_eq_left', exists_eq_left, pr_call, pr_fi, List.append_nil, List.cons_append, List.nil_append, List.map_cons, List.map_nil, List.replicate_succ, List.replicate_zero, D.int.injEq, D.bl.injEq, D.lst.injEq, D.str.injEq, D.tup.injEq, pd_addI, pd_sub, pd_eqI, pd_eqB, pd_eqS, pd_neI, pd_neB, pd_neS, pd_ltI, pd_leI, pd_gtI, pd_geI, pd_leS, pd_isN, pd_intI, pd_list, pd_listT, pd_tuple, pd_dct, truth, isNonD, reduceCtorEq, if_true, if_false, reduceIte, Bool.false_eq_true, Bool.not_true, Bool.not_false, List.length_cons, List.length_nil, true_and, and_true, exists_const, exists_eq', List.headD_cons, pd_l0, pd_t0, pd_l1, pd_t1, pd_l2, pd_t2, pd_l3, pd_t3, pd_l4, pd_t4, pd_l5, pd_t5, pd_l6, pd_t6, pd_l7, pd_t7, pd_l8, pd_t8, pd_l9, pd_t9, pd_l10, pd_t10, pd_l11, pd_t11, pd_l12, pd_t12, exists_eq, List.getElem?_cons_zero, List.getElem?_cons_succ, nx_ret, wipeE, backE, endQ, Fi.io, outsOf, isM, List.headD_cons, List.tail_cons, back, pickE, pick, fiOf_eq hj, fiPull, pd_idxL, ix_int r0 r1]
  have hr : r.toNat < ds.length := by omega
  refine ⟨ds[r.toNat], List.getElem?_eq_getElem hr, ?_⟩
  exact ⟨List.getElem_mem hr, t', rfl, hb'⟩
def letters : List Nat := [97, 98, 99, 100, 101, 102, 103, 104, 105, 106, 107, 108, 109, 110, 111, 112, 113, 114, 115, 116, 117, 118, 119, 120, 121, 122]
def dfLetters : Df := ⟨⟨[], true⟩, [], [(.ret (.op (.bf .list) [(.k (.str [97, 98, 99, 100, 101, 102, 103, 104, 105, 106, 107, 108, 109, 110, 111, 112, 113, 114, 115, 116, 117, 118, 119, 120, 121, 122]))]))]⟩
theorem letters_ok (h : pg.defs[i]? = some dfLetters) : (pg.callN KK (n + 1) i []).Ok fun d o => d = .lst (letters.map fun c => .str [c]) ∧ o = [] := by
  refine callN_ok h rfl ?_
  refine st_go ?_
  simp only [ok_v, ok_k, ok_op, ok_and, ok_or, ok_not, ok_if, ok_chain, ok_call, ok_callK, ok_mkK, ok_fld, ok_met, ok_sl, ok_mv, ok_lc, ok_pop, ok_es0, ok_es, ok_o0, ok_o1, okT_and, okT_or, okT_not, okT_k, okT_op, okT_ite, okT_chain, okT_call, okT_fld, okT_lc, okT_pop, okT_callK, okT_v, okTs0, okTs1, okI_val, okI_rng, okI_rng2, okI_zip, okI_enu, okI_slot, ok_pass, ok_brk, ok_cont, ok_expr, ok_set, ok_par, ok_unp, ok_augA, ok_seti, ok_setf, ok_app, ok_ifS, ok_for, ok_whl, ok_ret, late_k, late_op, late_and_, late_or_, late_not_, late_ite, late_chain, late_call, late_fld, late_met, late_sl, late_lc, late_pop, late_mv, late_callK, late_mkK, late_v, late_nil, get_c0, get_cs, List.set_cons_zero, List.set_cons_succ, stK_n, setKs_nil, setKs_n, Option.bind_some, Option.map_some, Option.some.injEq, exists_eq_left', exists_eq_left, pr_call, pr_fi, List.append_nil, List.cons_append, List.nil_append, List.map_cons, List.map_nil, List.replicate_succ, List.replicate_zero, D.int.injEq, D.bl.injEq, D.lst.injEq, D.str.injEq, D.tup.injEq, pd_addI, pd_sub, pd_eqI, pd_eqB, pd_eqS, pd_neI, pd_neB, pd_neS, pd_ltI, pd_leI, pd_gtI, pd_geI, pd_leS, pd_isN, pd_intI, pd_list, pd_listT, pd_tuple, pd_dct, truth, isNonD, reduceCtorEq, if_true, if_false, reduceIte, Bool.false_eq_true, Bool.not_true, Bool.not_false, List.length_cons, List.length_nil, true_and, and_true, exists_const, exists_eq', List.headD_cons, pd_l0, pd_t0, pd_l1, pd_t1, pd_l2, pd_t2, pd_l3, pd_t3, pd_l4, pd_t4, pd_l5, pd_t5, pd_l6, pd_t6, pd_l7, pd_t7, pd_l8, pd_t8, pd_l9, pd_t9, pd_l10, pd_t10, pd_l11, pd_t11, pd_l12, pd_t12, exists_eq, dfLetters, List.getElem?_cons_zero, List.getElem?_cons_succ, nx_ret, wipeE, backE, endQ, Fi.io, outsOf, isM, List.headD_cons, List.tail_cons, back, pickE, pick]
  exact ⟨_, rfl, rfl⟩
def dfMixed (pull : Nat) : Df := ⟨⟨[.m, .n], true⟩, [.m, .m, .n], [(.par [(2, true), (3, true)] [(.op (.bf .list) [(.v 1)]), (.op .lst [])]), (.for_ (.nm 4) (.rng (.op (.bf .len) [(.v 1)])) [(.app 3 (.pop 2 (.call pull [(.v 0), (.op (.bf .len) [(.v 2)])] [])))]), (.ret (.v 3))]⟩
theorem mixed_ok {t : D} {k j : Nat} {ds : List D} (h : pg.defs[i]? = some (dfMixed j)) (hj : pg.defs[j]? = some dfPull) (hb : Bag k t) (hk : ds.length ≤ k) (h1 : ds.length ≤ 1000000) :
    (pg.callN KK (n + 2) i [t, .lst ds]).Ok fun d o => ∃ es t', d = .lst es ∧ es.Perm ds ∧ o = [some t', none] ∧ Bag (k - ds.length) t' := by
  refine callN_ok h rfl ?_
  refine st_go ?_
  simp only [ok_v, ok_k, ok_op, ok_and, ok_or, ok_not, ok_if, ok_chain, ok_call, ok_callK, ok_mkK, ok_fld, ok_met, ok_sl, ok_mv, ok_lc, ok_pop, ok_es0, ok_es, ok_o0, ok_o1, okT_and, okT_or, okT_not, okT_k, okT_op, okT_ite, okT_chain, okT_call, okT_fld, okT_lc, okT_pop, okT_callK, okT_v, okTs0, okTs1, okI_val, okI_rng, okI_rng2, okI_zip, okI_enu, okI_slot, ok_pass, ok_brk, ok_cont, ok_expr, ok_set, ok_par, ok_unp, ok_augA, ok_seti, ok_setf, ok_app, ok_ifS, ok_for, ok_whl, ok_ret, late_k, late_op, late_and_, late_or_, late_not_, late_ite, late_chain, late_call, late_fld, late_met, late_sl, late_lc, late_pop, late_mv, late_callK, late_mkK, late_v, late_nil, get_c0, get_cs, List.set_cons_zero, List.set_cons_succ, stK_n, setKs_nil, setKs_n, Option.bind_some, Option.map_some, Option.some.injEq, exists_eq_left', exists_eq_left, pr_call, pr_fi, List.append_nil, List.cons_append, List.nil_append, List.map_cons, List.map_nil, List.replicate_succ, List.replicate_zero, D.int.injEq, D.bl.injEq, D.lst.injEq, D.str.injEq, D.tup.injEq, pd_addI, pd_sub, pd_eqI, pd_eqB, pd_eqS, pd_neI, pd_neB, pd_neS, pd_ltI, pd_leI, pd_gtI, pd_geI, pd_leS, pd_isN, pd_intI, pd_list, pd_listT, pd_tuple, pd_dct, truth, isNonD, reduceCtorEq, if_true, if_false, reduceIte, Bool.false_eq_true, Bool.not_true, Bool.not_false, List.length_cons, List.length_nil, true_and, and_true, exists_const, exists_eq', List.headD_cons, pd_l0, pd_t0, pd_l1, pd_t1, pd_l2, pd_t2, pd_l3, pd_t3, pd_l4, pd_t4, pd_l5, pd_t5, pd_l6, pd_t6, pd_l7, pd_t7, pd_l8, pd_t8, pd_l9, pd_t9, pd_l10, pd_t10, pd_l11, pd_t11, pd_l12, pd_t12, exists_eq, dfMixed]
  refine ⟨_, rfl, ?_⟩
  refine st_nx ?_
  simp only [ok_v, ok_k, ok_op, ok_and, ok_or, ok_not, ok_if, ok_chain, ok_call, ok_callK, ok_mkK, ok_fld, ok_met, ok_sl, ok_mv, ok_lc, ok_pop, ok_es0, ok_es, ok_o0, ok_o1, okT_and, okT_or, okT_not, okT_k, okT_op, okT_ite, okT_chain, okT_call, okT_fld, okT_lc, okT_pop, okT_callK, okT_v, okTs0, okTs1, okI_val, okI_rng, okI_rng2, okI_zip, okI_enu, okI_slot, ok_pass, ok_brk, ok_cont, ok_expr, ok_set, ok_par, ok_unp, ok_augA, ok_seti, ok_setf, ok_app, ok_ifS, ok_for, ok_whl, ok_ret, late_k, late_op, late_and_, late_or_, late_not_, late_ite, late_chain, late_call, late_fld, late_met, late_sl, late_lc, late_pop, late_mv, late_callK, late_mkK, late_v, late_nil, get_c0, get_cs, List.set_cons_zero, List.set_cons_succ, stK_n, setKs_nil, setKs_n, Option.bind_some, Option.map_some, Option.some.injEq, exists_eq_left', exists_eq_left, pr_call, pr_fi, List.append_nil, List.cons_append, List.nil_append, List.map_cons, List.map_nil, List.replicate_succ, List.replicate_zero, D.int.injEq, D.bl.injEq, D.lst.injEq, D.str.injEq, D.tup.injEq, pd_addI, pd_sub, pd_eqI, pd_eqB, pd_eqS, pd_neI, pd_neB, pd_neS, pd_ltI, pd_leI, pd_gtI, pd_geI, pd_leS, pd_isN, pd_intI, pd_list, pd_listT, pd_tuple, pd_dct, truth, isNonD, reduceCtorEq, if_true, if_false, reduceIte, Bool.false_eq_true, Bool.not_true, Bool.not_false, List.length_cons, List.length_nil, true_and, and_true, exists_const, exists_eq', List.headD_cons, pd_l0, pd_t0, pd_l1, pd_t1, pd_l2, pd_t2, pd_l3, pd_t3, pd_l4, pd_t4, pd_l5, pd_t5, pd_l6, pd_t6, pd_l7, pd_t7, pd_l8, pd_t8, pd_l9, pd_t9, pd_l10, pd_t10, pd_l11, pd_t11, pd_l12, pd_t12, exists_eq, pd_lenL (small_le h1)]
  refine ⟨_, rngOk (by omega) (by omega), ?_⟩
  refine forL_ok (fun xs e => ∃ left found t' x, e = [some t', some (.lst ds), some (.lst left), some (.lst found), x] ∧ (found ++ left).Perm ds ∧ left.length = xs.length ∧ Bag (k - ds.length + xs.length) t') ?_ ?_ _ _ ?_
  · rintro x xs e ⟨left, found, t', x4, rfl, hp, hl, hb⟩
    refine ⟨rfl, _, rfl, ?_⟩
    have hlen : (found ++ left).length = ds.length := hp.length_eq
    rw [List.length_append] at hlen
    rw [List.length_cons] at hl
    refine st_go ?_
    simp only [ok_v, ok_k, ok_op, ok_and, ok_or, ok_not, ok_if, ok_chain, ok_call, ok_callK, ok_mkK, ok_fld, ok_met, ok_sl, ok_mv, ok_lc, ok_pop, ok_es0, ok_es, ok_o0, ok_o1, okT_and, okT_or, okT_not, okT_k, okT_op, okT_ite, okT_chain, okT_call, okT_fld, okT_lc, okT_pop, okT_callK, okT_v, okTs0, okTs1, okI_val, okI_rng, okI_rng2, okI_zip, okI_enu, okI_slot, ok_pass, ok_brk, ok_cont, ok_expr, ok_set, ok_par, ok_unp, ok_augA, ok_seti, ok_setf, ok_app, ok_ifS, ok_for, ok_whl, ok_ret, late_k, late_op, late_and_, late_or_, late_not_, late_ite, late_chain, late_call, late_fld, late_met, late_sl, late_lc, late_pop, late_mv, late_callK, late_mkK, late_v, late_nil, get_c0, get_cs, List.set_cons_zero, List.set_cons_succ, stK_n, setKs_nil, setKs_n, Option.bind_some, Option.map_some, Option.some.injEq, exists_eq_left', exists_eq_left, pr_call, pr_fi, List.append_nil, List.cons_append, List.nil_append, List.map_cons, List.map_nil, List.replicate_succ, List.replicate_zero, D.int.injEq, D.bl.injEq, D.lst.injEq, D.str.injEq, D.tup.injEq, pd_addI, pd_sub, pd_eqI, pd_eqB, pd_eqS, pd_neI, pd_neB, pd_neS, pd_ltI, pd_leI, pd_gtI, pd_geI, pd_leS, pd_isN, pd_intI, pd_list, pd_listT, pd_tuple, pd_dct, truth, isNonD, reduceCtorEq, if_true, if_false, reduceIte, Bool.false_eq_true, Bool.not_true, Bool.not_false, List.length_cons, List.length_nil, true_and, and_true, exists_const, exists_eq', List.headD_cons, pd_l0, pd_t0, pd_l1, pd_t1, pd_l2, pd_t2, pd_l3, pd_t3, pd_l4, pd_t4, pd_l5, pd_t5, pd_l6, pd_t6, pd_l7, pd_t7, pd_l8, pd_t8, pd_l9, pd_t9, pd_l10, pd_t10, pd_l11, pd_t11, pd_l12, pd_t12, exists_eq, pd_lenL (small_le (show left.length ≤ 1000000 by omega))]
    refine (pull_ok hj hb (by simp only [List.length_cons]; omega) (by omega) (Int.lt_of_le_of_lt (b := 1000000) (by omega) (by decide +kernel))).imp ?_
    rintro _ _ ⟨r, t2, rfl, rfl, r0, r1, hb2⟩
    have hr : r.toNat < left.length := by omega
    simp only [ok_v, ok_k, ok_op, ok_and, ok_or, ok_not, ok_if, ok_chain, ok_call, ok_callK, ok_mkK, ok_fld, ok_met, ok_sl, ok_mv, ok_lc, ok_pop, ok_es0, ok_es, ok_o0, ok_o1, okT_and, okT_or, okT_not, okT_k, okT_op, okT_ite, okT_chain, okT_call, okT_fld, okT_lc, okT_pop, okT_callK, okT_v, okTs0, okTs1, okI_val, okI_rng, okI_rng2, okI_zip, okI_enu, okI_slot, ok_pass, ok_brk, ok_cont, ok_expr, ok_set, ok_par, ok_unp, ok_augA, ok_seti, ok_setf, ok_app, ok_ifS, ok_for, ok_whl, ok_ret, late_k, late_op, late_and_, late_or_, late_not_, late_ite, late_chain, late_call, late_fld, late_met, late_sl, late_lc, late_pop, late_mv, late_callK, late_mkK, late_v, late_nil, get_c0, get_cs, List.set_cons_zero, List.set_cons_succ, stK_n, setKs_nil, setKs_n, Option.bind_some, Option.map_some, Option.some.injEq, exists_eq_left', exists_eq_left, pr_call, pr_fi, List.append_nil, List.cons_append, List.nil_append, List.map_cons, List.map_nil, List.replicate_succ, List.replicate_zero, D.int.injEq, D.bl.injEq, D.lst.injEq, D.str.injEq, D.tup.injEq, pd_addI, pd_sub, pd_eqI, pd_eqB, pd_eqS, pd_neI, pd_neB, pd_neS, pd_ltI, pd_leI, pd_gtI, pd_geI, pd_leS, pd_isN, pd_intI, pd_list, pd_listT, pd_tuple, pd_dct, truth, isNonD, reduceCtorEq, if_true, if_false, reduceIte, Bool.false_eq_true, Bool.not_true, Bool.not_false, List.length_cons, List.length_nil, true_and, and_true, exists_const, exists_eq', List.headD_cons, pd_l0, pd_t0, pd_l1, pd_t1, pd_l2, pd_t2, pd_l3, pd_t3, pd_l4, pd_t4, pd_l5, pd_t5, pd_l6, pd_t6, pd_l7, pd_t7, pd_l8, pd_t8, pd_l9, pd_t9, pd_l10, pd_t10, pd_l11, pd_t11, pd_l12, pd_t12, exists_eq, List.getElem?_cons_zero, List.getElem?_cons_succ, nx_ret, wipeE, backE, endQ, Fi.io, outsOf, isM, List.headD_cons, List.tail_cons, back, pickE, pick, fiOf_eq hj, fiPull, ix_int r0 r1, List.getElem?_eq_getElem hr, small_le (show left.length ≤ 1000000 by omega), small_le (show found.length ≤ 1000000 by omega)]
    refine st_end ?_
    refine ⟨left.eraseIdx r.toNat, found ++ [left[r.toNat]], t2, _, rfl, ?_, ?_, hb2.mono (by simp only [List.length_cons]; omega)⟩
    · rw [List.append_assoc]
      refine List.Perm.trans ?_ hp
      refine List.Perm.append_left _ ?_
      exact perm_erase hr
    · rw [List.length_eraseIdx_of_lt hr]; omega
  · rintro e ⟨left, found, t', x4, rfl, hp, hl, hb⟩
    refine ⟨rfl, ?_⟩
    have : left = [] := List.length_eq_zero_iff.mp hl
    subst this
    rw [List.append_nil] at hp
    refine st_nx ?_
    simp only [ok_v, ok_k, ok_op, ok_and, ok_or, ok_not, ok_if, ok_chain, ok_call, ok_callK, ok_mkK, ok_fld, ok_met, ok_sl, ok_mv, ok_lc, ok_pop, ok_es0, ok_es, ok_o0, ok_o1, okT_and, okT_or, okT_not, okT_k, okT_op, okT_ite, okT_chain, okT_call, okT_fld, okT_lc, okT_pop, okT_callK, okT_v, okTs0, okTs1, okI_val, okI_rng, okI_rng2, okI_zip, okI_enu, okI_slot, ok_pass, ok_brk, ok_cont, ok_expr, ok_set, ok_par, ok_unp, ok_augA, ok_seti, ok_setf, ok_app, ok_ifS, ok_for, ok_whl, ok_ret, late_k, late_op, late_and_, late_or_, late_not_, late_ite, late_chain, late_call, late_fld, late_met, late_sl, late_lc, late_pop, late_mv, late_callK, late_mkK, late_v, late_nil, get_c0, get_cs, List.set_cons_zero, List.set_cons_succ, stK_n, setKs_nil, setKs_n, Option.bind_some, Option.map_some, Option.some.injEq, exists_eq_left', exists_eq_left, pr_call, pr_fi, List.append_nil, List.cons_append, List.nil_append, List.map_cons, List.map_nil, List.replicate_succ, List.replicate_zero, D.int.injEq, D.bl.injEq, D.lst.injEq, D.str.injEq, D.tup.injEq, pd_addI, pd_sub, pd_eqI, pd_eqB, pd_eqS, pd_neI, pd_neB, pd_neS, pd_ltI, pd_leI, pd_gtI, pd_geI, pd_leS, pd_isN, pd_intI, pd_list, pd_listT, pd_tuple, pd_dct, truth, isNonD, reduceCtorEq, if_true, if_false, reduceIte, Bool.false_eq_true, Bool.not_true, Bool.not_false, List.length_cons, List.length_nil, true_and, and_true, exists_const, exists_eq', List.headD_cons, pd_l0, pd_t0, pd_l1, pd_t1, pd_l2, pd_t2, pd_l3, pd_t3, pd_l4, pd_t4, pd_l5, pd_t5, pd_l6, pd_t6, pd_l7, pd_t7, pd_l8, pd_t8, pd_l9, pd_t9, pd_l10, pd_t10, pd_l11, pd_t11, pd_l12, pd_t12, exists_eq]
    exact ⟨found, t', rfl, hp, rfl, hb.mono (by simp)⟩
  · exact ⟨ds, [], t, none, rfl, .refl _, by simp, hb.mono (by simp; omega)⟩
end
end TE
/-! Tp3: what two equal values are told to be; names, atoms, numbers. -/
namespace TE
open PySem L2
def dfLike (nC self : Nat) : Df := ⟨⟨[.n, .n], true⟩, [.n, .n, .n], [(.if_ (.op (.isi nC [.ty .dict]) [(.v 1)]) [(.if_ (.or_ (.not_ (.op (.isi nC [.ty .dict]) [(.v 0)])) (.op .ne [(.op (.bf .len) [(.v 0)]), (.op (.bf .len) [(.v 1)])])) [(.ret (.k (.bl false)))] []), (.ret (.op (.bf .all) [(.lc [2] (.nm 2) (.val (.v 1)) [] (.and_ (.op .inn [(.v 2), (.v 0)]) (.call self [(.op .idx [(.v 0), (.v 2)]), (.op .idx [(.v 1), (.v 2)])] [])))]))] []), (.if_ (.op (.isi nC [.ty .list, .ty .tuple]) [(.v 1)]) [(.if_ (.or_ (.op .ne [(.op (.isi nC [.ty .list]) [(.v 0)]), (.op (.isi nC [.ty .list]) [(.v 1)])]) (.op .ne [(.op (.isi nC [.ty .tuple]) [(.v 0)]), (.op (.isi nC [.ty .tuple]) [(.v 1)])])) [(.ret (.k (.bl false)))] []), (.ret (.and_ (.op .eq [(.op (.bf .len) [(.v 0)]), (.op (.bf .len) [(.v 1)])]) (.op (.bf .all) [(.lc [3, 4] (.tp [3, 4]) (.zip (.v 0) (.v 1)) [] (.call self [(.v 3), (.v 4)] []))])))] []), (.if_ (.or_ (.op .isN [(.v 1)]) (.op .isN [(.v 0)])) [(.ret (.and_ (.op .isN [(.v 1)]) (.op .isN [(.v 0)])))] []), (.if_ (.or_ (.op .ne [(.op (.isi nC [.ty .bool]) [(.v 0)]), (.op (.isi nC [.ty .bool]) [(.v 1)])]) (.op .ne [(.op (.isi nC [.ty .int]) [(.v 0)]), (.op (.isi nC [.ty .int]) [(.v 1)])])) [(.ret (.k (.bl false)))] []), (.ret (.and_ (.op .eq [(.op (.isi nC [.ty .str]) [(.v 0)]), (.op (.isi nC [.ty .str]) [(.v 1)])]) (.op .eq [(.v 0), (.v 1)])))]⟩
theorem fiLike {nC s : Nat} : (dfLike nC s).fi = ⟨[.n, .n], true⟩ := rfl
mutual
/-- values that the laws compare: nested less than n deep -/
def pln : Nat → D → Bool
  | _, .non => true
  | _, .bl _ => true
  | _, .int _ => true
  | _, .str _ => true
  | n + 1, .lst ds => small ds.length && plns n ds
  | n + 1, .tup ds => small ds.length && plns n ds
  | _, _ => false
def plns : Nat → List D → Bool
  | _, [] => true
  | n, d :: ds => pln n d && plns n ds
end
theorem plns_mem {n : Nat} : ∀ {ds : List D}, plns n ds = true → ∀ d ∈ ds, pln n d = true
  | [], _, _, h => by cases h
  | x :: xs, h, d, hd => by
    unfold plns at h
    simp only [Bool.and_eq_true] at h
    rcases List.mem_cons.mp hd with rfl | hd
    · exact h.1
    · exact plns_mem h.2 d hd
theorem zipF_self : ∀ ds : List D, zipF ds ds = ds.map fun d => .tup [d, d]
  | [] => rfl
  | d :: ds => by simp [zipF, zipF_self ds]
theorem isi_of {n : Nat} {cs : List Cl} {d : D} {t : Cl} {b : Bool} (h : tyD d = some t) (h2 : clOk n t = true) (h3 : cs.any (isC d) = b) : pD (.isi n cs) [d] = some (.bl b) := by
  rw [pd_isi h h2, h3]
section
variable {pg : Pg} {KK n i nC : Nat}
theorem all_true {m : Nat} : pD (.bf .all) [.lst (List.replicate m (.bl true))] = some (.bl true) := by
  have : List.replicate m (D.bl true) = (List.replicate m true).map .bl := by simp
  rw [this, pd_all]
  simp
theorem like_ok (h : pg.defs[i]? = some (dfLike nC i)) : ∀ (m : Nat) (d : D), pln m d = true → (pg.callN KK (n + 1 + m) i [d, d]).Ok fun r o => r = .bl true ∧ o = [none, none] := by
  have seq : ∀ (m : Nat) (ds : List D) (f : List D → D), (f = .lst ∨ f = .tup) → (small ds.length && plns m ds) = true → (∀ d ∈ ds, (pg.callN KK (n + 1 + m) i [d, d]).Ok fun r o => r = .bl true ∧ o = [none, none]) →
      (pg.callN KK (n + 1 + m + 1) i [f ds, f ds]).Ok fun r o => r = .bl true ∧ o = [none, none] := by
    intro m ds f hf hp ih
    simp only [Bool.and_eq_true] at hp
    have hs := hp.1
    have hl : ds.length ≤ 1000000 := by unfold small at hs; exact of_decide_eq_true hs
    have i1 : pD (.isi nC [.ty .dict]) [f ds] = some (.bl false) := by rcases hf with rfl | rfl <;> exact isi_of rfl rfl rfl
    have i2 : pD (.isi nC [.ty .list, .ty .tuple]) [f ds] = some (.bl true) := by rcases hf with rfl | rfl <;> exact isi_of rfl rfl rfl
    obtain ⟨bl, i3⟩ : ∃ b, pD (.isi nC [.ty .list]) [f ds] = some (.bl b) := by rcases hf with rfl | rfl <;> exact ⟨_, isi_of rfl rfl rfl⟩
    obtain ⟨bt, i4⟩ : ∃ b, pD (.isi nC [.ty .tuple]) [f ds] = some (.bl b) := by rcases hf with rfl | rfl <;> exact ⟨_, isi_of rfl rfl rfl⟩
    have i5 : pD (.bf .len) [f ds] = some (.int ds.length) := by rcases hf with rfl | rfl <;> first | exact pd_lenL hs | exact pd_lenT hs
    have i6 : zipD (f ds) (f ds) = some (ds.map fun d => .tup [d, d]) := by rcases hf with rfl | rfl <;> exact congrArg some (zipF_self ds)
    refine callN_ok h rfl ?_
    refine st_go ?_
    simp only [ok_v, ok_k, ok_op, ok_and, ok_or, ok_not, ok_if, ok_chain, ok_call, ok_callK, ok_mkK, ok_fld, ok_met, ok_sl, ok_mv, ok_lc, ok_pop, ok_es0, ok_es, ok_o0, ok_o1, okT_and, okT_or, okT_not, okT_k, okT_op, okT_ite, okT_chain, okT_call, okT_fld, okT_lc, okT_pop, okT_callK, okT_v, okTs0, okTs1, okI_val, okI_rng, okI_rng2, okI_zip, okI_enu, okI_slot, ok_pass, ok_brk, ok_cont, ok_expr, ok_set, ok_par, ok_unp, ok_augA, ok_seti, ok_setf, ok_app, ok_ifS, ok_for, ok_whl, ok_ret, late_k, late_op, late_and_, late_or_, late_not_, late_ite, late_chain, late_call, late_fld, late_met, late_sl, late_lc, late_pop, late_mv, late_callK, late_mkK, late_v, late_nil, get_c0, get_cs, List.set_cons_zero, List.set_cons_succ, stK_n, setKs_nil, setKs_n, Option.bind_some, Option.map_some, Option.some.injEq, exists_eq_left', exists_eq_left, pr_call, pr_fi, List.append_nil, List.cons_append, List.nil_append, List.map_cons, List.map_nil, List.replicate_succ, List.replicate_zero, D.int.injEq, D.bl.injEq, D.lst.injEq, D.str.injEq, D.tup.injEq, pd_addI, pd_sub, pd_eqI, pd_eqB, pd_eqS, pd_neI, pd_neB, pd_neS, pd_ltI, pd_leI, pd_gtI, pd_geI, pd_leS, pd_isN, pd_intI, pd_list, pd_listT, pd_tuple, pd_dct, truth, isNonD, reduceCtorEq, if_true, if_false, reduceIte, Bool.false_eq_true, Bool.not_true, Bool.not_false, List.length_cons, List.length_nil, true_and, and_true, exists_const, exists_eq', List.headD_cons, pd_l0, pd_t0, pd_l1, pd_t1, pd_l2, pd_t2, pd_l3, pd_t3, pd_l4, pd_t4, pd_l5, pd_t5, pd_l6, pd_t6, pd_l7, pd_t7, pd_l8, pd_t8, pd_l9, pd_t9, pd_l10, pd_t10, pd_l11, pd_t11, pd_l12, pd_t12, exists_eq, dfLike, i1]
    refine st_end0 ?_
    refine st_nx ?_
    simp only [ok_v, ok_k, ok_op, ok_and, ok_or, ok_not, ok_if, ok_chain, ok_call, ok_callK, ok_mkK, ok_fld, ok_met, ok_sl, ok_mv, ok_lc, ok_pop, ok_es0, ok_es, ok_o0, ok_o1, okT_and, okT_or, okT_not, okT_k, okT_op, okT_ite, okT_chain, okT_call, okT_fld, okT_lc, okT_pop, okT_callK, okT_v, okTs0, okTs1, okI_val, okI_rng, okI_rng2, okI_zip, okI_enu, okI_slot, ok_pass, ok_brk, ok_cont, ok_expr, ok_set, ok_par, ok_unp, ok_augA, ok_seti, ok_setf, ok_app, ok_ifS, ok_for, ok_whl, ok_ret, late_k, late_op, late_and_, late_or_, late_not_, late_ite, late_chain, late_call, late_fld, late_met, late_sl, late_lc, late_pop, late_mv, late_callK, late_mkK, late_v, late_nil, get_c0, get_cs, List.set_cons_zero, List.set_cons_succ, stK_n, setKs_nil, setKs_n, Option.bind_some, Option.map_some, Option.some.injEq, exists_eq_left', exists_eq_left, pr_call, pr_fi, List.append_nil, List.cons_append, List.nil_append, List.map_cons, List.map_nil, List.replicate_succ, List.replicate_zero, D.int.injEq, D.bl.injEq, D.lst.injEq, D.str.injEq, D.tup.injEq, pd_addI, pd_sub, pd_eqI, pd_eqB, pd_eqS, pd_neI, pd_neB, pd_neS, pd_ltI, pd_leI, pd_gtI, pd_geI, pd_leS, pd_isN, pd_intI, pd_list, pd_listT, pd_tuple, pd_dct, truth, isNonD, reduceCtorEq, if_true, if_false, reduceIte, Bool.false_eq_true, Bool.not_true, Bool.not_false, List.length_cons, List.length_nil, true_and, and_true, exists_const, exists_eq', List.headD_cons, pd_l0, pd_t0, pd_l1, pd_t1, pd_l2, pd_t2, pd_l3, pd_t3, pd_l4, pd_t4, pd_l5, pd_t5, pd_l6, pd_t6, pd_l7, pd_t7, pd_l8, pd_t8, pd_l9, pd_t9, pd_l10, pd_t10, pd_l11, pd_t11, pd_l12, pd_t12, exists_eq, i2]
    refine st_go ?_
    simp only [ok_v, ok_k, ok_op, ok_and, ok_or, ok_not, ok_if, ok_chain, ok_call, ok_callK, ok_mkK, ok_fld, ok_met, ok_sl, ok_mv, ok_lc, ok_pop, ok_es0, ok_es, ok_o0, ok_o1, okT_and, okT_or, okT_not, okT_k, okT_op, okT_ite, okT_chain, okT_call, okT_fld, okT_lc, okT_pop, okT_callK, okT_v, okTs0, okTs1, okI_val, okI_rng, okI_rng2, okI_zip, okI_enu, okI_slot, ok_pass, ok_brk, ok_cont, ok_expr, ok_set, ok_par, ok_unp, ok_augA, ok_seti, ok_setf, ok_app, ok_ifS, ok_for, ok_whl, ok_ret, late_k, late_op, late_and_, late_or_, late_not_, late_ite, late_chain, late_call, late_fld, late_met, late_sl, late_lc, late_pop, late_mv, late_callK, late_mkK, late_v, late_nil, get_c0, get_cs, List.set_cons_zero, List.set_cons_succ, stK_n, setKs_nil, setKs_n, Option.bind_some, Option.map_some, Option.some.injEq, exists_eq_left', exists_eq_left, pr_call, pr_fi, List.append_nil, List.cons_append, List.nil_append, List.map_cons, List.map_nil, List.replicate_succ, List.replicate_zero, D.int.injEq, D.bl.injEq, D.lst.injEq, D.str.injEq, D.tup.injEq, pd_addI, pd_sub, pd_eqI, pd_eqB, pd_eqS, pd_neI, pd_neB, pd_neS, pd_ltI, pd_leI, pd_gtI, pd_geI, pd_leS, pd_isN, pd_intI, pd_list, pd_listT, pd_tuple, pd_dct, truth, isNonD, reduceCtorEq, if_true, if_false, reduceIte, Bool.false_eq_true, Bool.not_true, Bool.not_false, List.length_cons, List.length_nil, true_and, and_true, exists_const, exists_eq', List.headD_cons, pd_l0, pd_t0, pd_l1, pd_t1, pd_l2, pd_t2, pd_l3, pd_t3, pd_l4, pd_t4, pd_l5, pd_t5, pd_l6, pd_t6, pd_l7, pd_t7, pd_l8, pd_t8, pd_l9, pd_t9, pd_l10, pd_t10, pd_l11, pd_t11, pd_l12, pd_t12, exists_eq, i3, i4, bne_self_eq_false, beq_self_eq_true]
    refine st_end0 ?_
    refine st_nx ?_
    simp only [ok_v, ok_k, ok_op, ok_and, ok_or, ok_not, ok_if, ok_chain, ok_call, ok_callK, ok_mkK, ok_fld, ok_met, ok_sl, ok_mv, ok_lc, ok_pop, ok_es0, ok_es, ok_o0, ok_o1, okT_and, okT_or, okT_not, okT_k, okT_op, okT_ite, okT_chain, okT_call, okT_fld, okT_lc, okT_pop, okT_callK, okT_v, okTs0, okTs1, okI_val, okI_rng, okI_rng2, okI_zip, okI_enu, okI_slot, ok_pass, ok_brk, ok_cont, ok_expr, ok_set, ok_par, ok_unp, ok_augA, ok_seti, ok_setf, ok_app, ok_ifS, ok_for, ok_whl, ok_ret, late_k, late_op, late_and_, late_or_, late_not_, late_ite, late_chain, late_call, late_fld, late_met, late_sl, late_lc, late_pop, late_mv, late_callK, late_mkK, late_v, late_nil, get_c0, get_cs, List.set_cons_zero, List.set_cons_succ, stK_n, setKs_nil, setKs_n, Option.bind_some, Option.map_some, Option.some.injEq, exists_eq_left', exists_eq_left, pr_call, pr_fi, List.append_nil, List.cons_append, List.nil_append, List.map_cons, List.map_nil, List.replicate_succ, List.replicate_zero, D.int.injEq, D.bl.injEq, D.lst.injEq, D.str.injEq, D.tup.injEq, pd_addI, pd_sub, pd_eqI, pd_eqB, pd_eqS, pd_neI, pd_neB, pd_neS, pd_ltI, pd_leI, pd_gtI, pd_geI, pd_leS, pd_isN, pd_intI, pd_list, pd_listT, pd_tuple, pd_dct, truth, isNonD, reduceCtorEq, if_true, if_false, reduceIte, Bool.false_eq_true, Bool.not_true, Bool.not_false, List.length_cons, List.length_nil, true_and, and_true, exists_const, exists_eq', List.headD_cons, pd_l0, pd_t0, pd_l1, pd_t1, pd_l2, pd_t2, pd_l3, pd_t3, pd_l4, pd_t4, pd_l5, pd_t5, pd_l6, pd_t6, pd_l7, pd_t7, pd_l8, pd_t8, pd_l9, pd_t9, pd_l10, pd_t10, pd_l11, pd_t11, pd_l12, pd_t12, exists_eq, i5, beq_self_eq_true, i6]
    refine lcL_ok (fun xs e acc => (∃ ys : List D, (∀ y ∈ ys, y ∈ ds) ∧ xs = ys.map fun d => .tup [d, d]) ∧ (∃ x2 x3 x4, e = [some (f ds), some (f ds), x2, x3, x4]) ∧ (∃ c, acc = List.replicate c (.bl true) ∧ c + xs.length = ds.length)) ?_ ?_ _ _ _ ?_
    · rintro x xs e acc ⟨⟨ys, hy, hx⟩, ⟨x2, x3, x4, rfl⟩, c, rfl, hc⟩
      cases ys with
      | nil => cases hx
      | cons y ys =>
        simp only [List.map_cons, List.cons.injEq] at hx
        obtain ⟨rfl, rfl⟩ := hx
        refine ⟨rfl, _, rfl, ?_⟩
        simp only [ok_v, ok_k, ok_op, ok_and, ok_or, ok_not, ok_if, ok_chain, ok_call, ok_callK, ok_mkK, ok_fld, ok_met, ok_sl, ok_mv, ok_lc, ok_pop, ok_es0, ok_es, ok_o0, ok_o1, okT_and, okT_or, okT_not, okT_k, okT_op, okT_ite, okT_chain, okT_call, okT_fld, okT_lc, okT_pop, okT_callK, okT_v, okTs0, okTs1, okI_val, okI_rng, okI_rng2, okI_zip, okI_enu, okI_slot, ok_pass, ok_brk, ok_cont, ok_expr, ok_set, ok_par, ok_unp, ok_augA, ok_seti, ok_setf, ok_app, ok_ifS, ok_for, ok_whl, ok_ret, late_k, late_op, late_and_, late_or_, late_not_, late_ite, late_chain, late_call, late_fld, late_met, late_sl, late_lc, late_pop, late_mv, late_callK, late_mkK, late_v, late_nil, get_c0, get_cs, List.set_cons_zero, List.set_cons_succ, stK_n, setKs_nil, setKs_n, Option.bind_some, Option.map_some, Option.some.injEq, exists_eq_left', exists_eq_left, pr_call, pr_fi, List.append_nil, List.cons_append, List.nil_append, List.map_cons, List.map_nil, List.replicate_succ, List.replicate_zero, D.int.injEq, D.bl.injEq, D.lst.injEq, D.str.injEq, D.tup.injEq, pd_addI, pd_sub, pd_eqI, pd_eqB, pd_eqS, pd_neI, pd_neB, pd_neS, pd_ltI, pd_leI, pd_gtI, pd_geI, pd_leS, pd_isN, pd_intI, pd_list, pd_listT, pd_tuple, pd_dct, truth, isNonD, reduceCtorEq, if_true, if_false, reduceIte, Bool.false_eq_true, Bool.not_true, Bool.not_false, List.length_cons, List.length_nil, true_and, and_true, exists_const, exists_eq', List.headD_cons, pd_l0, pd_t0, pd_l1, pd_t1, pd_l2, pd_t2, pd_l3, pd_t3, pd_l4, pd_t4, pd_l5, pd_t5, pd_l6, pd_t6, pd_l7, pd_t7, pd_l8, pd_t8, pd_l9, pd_t9, pd_l10, pd_t10, pd_l11, pd_t11, pd_l12, pd_t12, exists_eq]
        refine (ih y (hy y (List.mem_cons_self ..))).imp ?_
        rintro _ _ ⟨rfl, rfl⟩
        simp only [List.length_cons, List.length_map] at hc
        simp only [ok_v, ok_k, ok_op, ok_and, ok_or, ok_not, ok_if, ok_chain, ok_call, ok_callK, ok_mkK, ok_fld, ok_met, ok_sl, ok_mv, ok_lc, ok_pop, ok_es0, ok_es, ok_o0, ok_o1, okT_and, okT_or, okT_not, okT_k, okT_op, okT_ite, okT_chain, okT_call, okT_fld, okT_lc, okT_pop, okT_callK, okT_v, okTs0, okTs1, okI_val, okI_rng, okI_rng2, okI_zip, okI_enu, okI_slot, ok_pass, ok_brk, ok_cont, ok_expr, ok_set, ok_par, ok_unp, ok_augA, ok_seti, ok_setf, ok_app, ok_ifS, ok_for, ok_whl, ok_ret, late_k, late_op, late_and_, late_or_, late_not_, late_ite, late_chain, late_call, late_fld, late_met, late_sl, late_lc, late_pop, late_mv, late_callK, late_mkK, late_v, late_nil, get_c0, get_cs, List.set_cons_zero, List.set_cons_succ, stK_n, setKs_nil, setKs_n, Option.bind_some, Option.map_some, Option.some.injEq, exists_eq_left', exists_eq_left, pr_call, pr_fi, List.append_nil, List.cons_append, List.nil_append, List.map_cons, List.map_nil, List.replicate_succ, List.replicate_zero, D.int.injEq, D.bl.injEq, D.lst.injEq, D.str.injEq, D.tup.injEq, pd_addI, pd_sub, pd_eqI, pd_eqB, pd_eqS, pd_neI, pd_neB, pd_neS, pd_ltI, pd_leI, pd_gtI, pd_geI, pd_leS, pd_isN, pd_intI, pd_list, pd_listT, pd_tuple, pd_dct, truth, isNonD, reduceCtorEq, if_true, if_false, reduceIte, Bool.false_eq_true, Bool.not_true, Bool.not_false, List.length_cons, List.length_nil, true_and, and_true, exists_const, exists_eq', List.headD_cons, pd_l0, pd_t0, pd_l1, pd_t1, pd_l2, pd_t2, pd_l3, pd_t3, pd_l4, pd_t4, pd_l5, pd_t5, pd_l6, pd_t6, pd_l7, pd_t7, pd_l8, pd_t8, pd_l9, pd_t9, pd_l10, pd_t10, pd_l11, pd_t11, pd_l12, pd_t12, exists_eq, List.getElem?_cons_zero, List.getElem?_cons_succ, nx_ret, wipeE, backE, endQ, Fi.io, outsOf, isM, List.headD_cons, List.tail_cons, back, pickE, pick, fiOf_eq h, fiLike]
        refine ⟨small_le (by rw [List.length_replicate]; omega), ⟨ys, fun z hz => hy z (List.mem_cons_of_mem _ hz), rfl⟩, ⟨_, _, _, rfl⟩, c + 1, ?_, ?_⟩
        · rw [List.replicate_succ']
        · simp only [List.length_map]; omega
    · rintro e acc ⟨_, ⟨x2, x3, x4, rfl⟩, c, rfl, hc⟩
      refine ⟨rfl, ?_⟩
      simp only [ok_v, ok_k, ok_op, ok_and, ok_or, ok_not, ok_if, ok_chain, ok_call, ok_callK, ok_mkK, ok_fld, ok_met, ok_sl, ok_mv, ok_lc, ok_pop, ok_es0, ok_es, ok_o0, ok_o1, okT_and, okT_or, okT_not, okT_k, okT_op, okT_ite, okT_chain, okT_call, okT_fld, okT_lc, okT_pop, okT_callK, okT_v, okTs0, okTs1, okI_val, okI_rng, okI_rng2, okI_zip, okI_enu, okI_slot, ok_pass, ok_brk, ok_cont, ok_expr, ok_set, ok_par, ok_unp, ok_augA, ok_seti, ok_setf, ok_app, ok_ifS, ok_for, ok_whl, ok_ret, late_k, late_op, late_and_, late_or_, late_not_, late_ite, late_chain, late_call, late_fld, late_met, late_sl, late_lc, late_pop, late_mv, late_callK, late_mkK, late_v, late_nil, get_c0, get_cs, List.set_cons_zero, List.set_cons_succ, stK_n, setKs_nil, setKs_n, Option.bind_some, Option.map_some, Option.some.injEq, exists_eq_left', exists_eq_left, pr_call, pr_fi, List.append_nil, List.cons_append, List.nil_append, List.map_cons, List.map_nil, List.replicate_succ, List.replicate_zero, D.int.injEq, D.bl.injEq, D.lst.injEq, D.str.injEq, D.tup.injEq, pd_addI, pd_sub, pd_eqI, pd_eqB, pd_eqS, pd_neI, pd_neB, pd_neS, pd_ltI, pd_leI, pd_gtI, pd_geI, pd_leS, pd_isN, pd_intI, pd_list, pd_listT, pd_tuple, pd_dct, truth, isNonD, reduceCtorEq, if_true, if_false, reduceIte, Bool.false_eq_true, Bool.not_true, Bool.not_false, List.length_cons, List.length_nil, true_and, and_true, exists_const, exists_eq', List.headD_cons, pd_l0, pd_t0, pd_l1, pd_t1, pd_l2, pd_t2, pd_l3, pd_t3, pd_l4, pd_t4, pd_l5, pd_t5, pd_l6, pd_t6, pd_l7, pd_t7, pd_l8, pd_t8, pd_l9, pd_t9, pd_l10, pd_t10, pd_l11, pd_t11, pd_l12, pd_t12, exists_eq, List.getElem?_cons_zero, List.getElem?_cons_succ, nx_ret, wipeE, backE, endQ, Fi.io, outsOf, isM, List.headD_cons, List.tail_cons, back, pickE, pick, all_true]
    · exact ⟨⟨ds, fun _ h => h, rfl⟩, ⟨_, _, _, rfl⟩, 0, rfl, by simp⟩
  have flat : ∀ (m : Nat) (d : D), (d = .non ∨ ((∃ b, d = .bl b) ∨ (∃ j, d = .int j) ∨ ∃ s, d = .str s)) → (pg.callN KK (m + 1) i [d, d]).Ok fun r o => r = .bl true ∧ o = [none, none] := by
    intro m d hd
    have i1 : pD (.isi nC [.ty .dict]) [d] = some (.bl false) := by rcases hd with rfl | ⟨b, rfl⟩ | ⟨b, rfl⟩ | ⟨b, rfl⟩ <;> exact isi_of rfl rfl rfl
    have i2 : pD (.isi nC [.ty .list, .ty .tuple]) [d] = some (.bl false) := by rcases hd with rfl | ⟨b, rfl⟩ | ⟨b, rfl⟩ | ⟨b, rfl⟩ <;> exact isi_of rfl rfl rfl
    refine callN_ok h rfl ?_
    refine st_go ?_
    simp only [ok_v, ok_k, ok_op, ok_and, ok_or, ok_not, ok_if, ok_chain, ok_call, ok_callK, ok_mkK, ok_fld, ok_met, ok_sl, ok_mv, ok_lc, ok_pop, ok_es0, ok_es, ok_o0, ok_o1, okT_and, okT_or, okT_not, okT_k, okT_op, okT_ite, okT_chain, okT_call, okT_fld, okT_lc, okT_pop, okT_callK, okT_v, okTs0, okTs1, okI_val, okI_rng, okI_rng2, okI_zip, okI_enu, okI_slot, ok_pass, ok_brk, ok_cont, ok_expr, ok_set, ok_par, ok_unp, ok_augA, ok_seti, ok_setf, ok_app, ok_ifS, ok_for, ok_whl, ok_ret, late_k, late_op, late_and_, late_or_, late_not_, late_ite, late_chain, late_call, late_fld, late_met, late_sl, late_lc, late_pop, late_mv, late_callK, late_mkK, late_v, late_nil, get_c0, get_cs, List.set_cons_zero, List.set_cons_succ, stK_n, setKs_nil, setKs_n, Option.bind_some, Option.map_some, Option.some.injEq, exists_eq_left', exists_eq_left, pr_call, pr_fi, List.append_nil, List.cons_append, List.nil_append, List.map_cons, List.map_nil, List.replicate_succ, List.replicate_zero, D.int.injEq, D.bl.injEq, D.lst.injEq, D.str.injEq, D.tup.injEq, pd_addI, pd_sub, pd_eqI, pd_eqB, pd_eqS, pd_neI, pd_neB, pd_neS, pd_ltI, pd_leI, pd_gtI, pd_geI, pd_leS, pd_isN, pd_intI, pd_list, pd_listT, pd_tuple, pd_dct, truth, isNonD, reduceCtorEq, if_true, if_false, reduceIte, Bool.false_eq_true, Bool.not_true, Bool.not_false, List.length_cons, List.length_nil, true_and, and_true, exists_const, exists_eq', List.headD_cons, pd_l0, pd_t0, pd_l1, pd_t1, pd_l2, pd_t2, pd_l3, pd_t3, pd_l4, pd_t4, pd_l5, pd_t5, pd_l6, pd_t6, pd_l7, pd_t7, pd_l8, pd_t8, pd_l9, pd_t9, pd_l10, pd_t10, pd_l11, pd_t11, pd_l12, pd_t12, exists_eq, dfLike, i1]
    refine st_end0 ?_
    refine st_nx ?_
    simp only [ok_v, ok_k, ok_op, ok_and, ok_or, ok_not, ok_if, ok_chain, ok_call, ok_callK, ok_mkK, ok_fld, ok_met, ok_sl, ok_mv, ok_lc, ok_pop, ok_es0, ok_es, ok_o0, ok_o1, okT_and, okT_or, okT_not, okT_k, okT_op, okT_ite, okT_chain, okT_call, okT_fld, okT_lc, okT_pop, okT_callK, okT_v, okTs0, okTs1, okI_val, okI_rng, okI_rng2, okI_zip, okI_enu, okI_slot, ok_pass, ok_brk, ok_cont, ok_expr, ok_set, ok_par, ok_unp, ok_augA, ok_seti, ok_setf, ok_app, ok_ifS, ok_for, ok_whl, ok_ret, late_k, late_op, late_and_, late_or_, late_not_, late_ite, late_chain, late_call, late_fld, late_met, late_sl, late_lc, late_pop, late_mv, late_callK, late_mkK, late_v, late_nil, get_c0, get_cs, List.set_cons_zero, List.set_cons_succ, stK_n, setKs_nil, setKs_n, Option.bind_some, Option.map_some, Option.some.injEq, exists_eq_left', exists_eq_left, pr_call, pr_fi, List.append_nil, List.cons_append, List.nil_append, List.map_cons, List.map_nil, List.replicate_succ, List.replicate_zero, D.int.injEq, D.bl.injEq, D.lst.injEq, D.str.injEq, D.tup.injEq, pd_addI, pd_sub, pd_eqI, pd_eqB, pd_eqS, pd_neI, pd_neB, pd_neS, pd_ltI, pd_leI, pd_gtI, pd_geI, pd_leS, pd_isN, pd_intI, pd_list, pd_listT, pd_tuple, pd_dct, truth, isNonD, reduceCtorEq, if_true, if_false, reduceIte, Bool.false_eq_true, Bool.not_true, Bool.not_false, List.length_cons, List.length_nil, true_and, and_true, exists_const, exists_eq', List.headD_cons, pd_l0, pd_t0, pd_l1, pd_t1, pd_l2, pd_t2, pd_l3, pd_t3, pd_l4, pd_t4, pd_l5, pd_t5, pd_l6, pd_t6, pd_l7, pd_t7, pd_l8, pd_t8, pd_l9, pd_t9, pd_l10, pd_t10, pd_l11, pd_t11, pd_l12, pd_t12, exists_eq, i2]
    refine st_end0 ?_
    refine st_nx ?_
    simp only [ok_v, ok_k, ok_op, ok_and, ok_or, ok_not, ok_if, ok_chain, ok_call, ok_callK, ok_mkK, ok_fld, ok_met, ok_sl, ok_mv, ok_lc, ok_pop, ok_es0, ok_es, ok_o0, ok_o1, okT_and, okT_or, okT_not, okT_k, okT_op, okT_ite, okT_chain, okT_call, okT_fld, okT_lc, okT_pop, okT_callK, okT_v, okTs0, okTs1, okI_val, okI_rng, okI_rng2, okI_zip, okI_enu, okI_slot, ok_pass, ok_brk, ok_cont, ok_expr, ok_set, ok_par, ok_unp, ok_augA, ok_seti, ok_setf, ok_app, ok_ifS, ok_for, ok_whl, ok_ret, late_k, late_op, late_and_, late_or_, late_not_, late_ite, late_chain, late_call, late_fld, late_met, late_sl, late_lc, late_pop, late_mv, late_callK, late_mkK, late_v, late_nil, get_c0, get_cs, List.set_cons_zero, List.set_cons_succ, stK_n, setKs_nil, setKs_n, Option.bind_some, Option.map_some, Option.some.injEq, exists_eq_left', exists_eq_left, pr_call, pr_fi, List.append_nil, List.cons_append, List.nil_append, List.map_cons, List.map_nil, List.replicate_succ, List.replicate_zero, D.int.injEq, D.bl.injEq, D.lst.injEq, D.str.injEq, D.tup.injEq, pd_addI, pd_sub, pd_eqI, pd_eqB, pd_eqS, pd_neI, pd_neB, pd_neS, pd_ltI, pd_leI, pd_gtI, pd_geI, pd_leS, pd_isN, pd_intI, pd_list, pd_listT, pd_tuple, pd_dct, truth, isNonD, reduceCtorEq, if_true, if_false, reduceIte, Bool.false_eq_true, Bool.not_true, Bool.not_false, List.length_cons, List.length_nil, true_and, and_true, exists_const, exists_eq', List.headD_cons, pd_l0, pd_t0, pd_l1, pd_t1, pd_l2, pd_t2, pd_l3, pd_t3, pd_l4, pd_t4, pd_l5, pd_t5, pd_l6, pd_t6, pd_l7, pd_t7, pd_l8, pd_t8, pd_l9, pd_t9, pd_l10, pd_t10, pd_l11, pd_t11, pd_l12, pd_t12, exists_eq]
    by_cases hn : d = .non
    · subst hn
      simp only [ok_v, ok_k, ok_op, ok_and, ok_or, ok_not, ok_if, ok_chain, ok_call, ok_callK, ok_mkK, ok_fld, ok_met, ok_sl, ok_mv, ok_lc, ok_pop, ok_es0, ok_es, ok_o0, ok_o1, okT_and, okT_or, okT_not, okT_k, okT_op, okT_ite, okT_chain, okT_call, okT_fld, okT_lc, okT_pop, okT_callK, okT_v, okTs0, okTs1, okI_val, okI_rng, okI_rng2, okI_zip, okI_enu, okI_slot, ok_pass, ok_brk, ok_cont, ok_expr, ok_set, ok_par, ok_unp, ok_augA, ok_seti, ok_setf, ok_app, ok_ifS, ok_for, ok_whl, ok_ret, late_k, late_op, late_and_, late_or_, late_not_, late_ite, late_chain, late_call, late_fld, late_met, late_sl, late_lc, late_pop, late_mv, late_callK, late_mkK, late_v, late_nil, get_c0, get_cs, List.set_cons_zero, List.set_cons_succ, stK_n, setKs_nil, setKs_n, Option.bind_some, Option.map_some, Option.some.injEq, exists_eq_left', exists_eq_left, pr_call, pr_fi, List.append_nil, List.cons_append, List.nil_append, List.map_cons, List.map_nil, List.replicate_succ, List.replicate_zero, D.int.injEq, D.bl.injEq, D.lst.injEq, D.str.injEq, D.tup.injEq, pd_addI, pd_sub, pd_eqI, pd_eqB, pd_eqS, pd_neI, pd_neB, pd_neS, pd_ltI, pd_leI, pd_gtI, pd_geI, pd_leS, pd_isN, pd_intI, pd_list, pd_listT, pd_tuple, pd_dct, truth, isNonD, reduceCtorEq, if_true, if_false, reduceIte, Bool.false_eq_true, Bool.not_true, Bool.not_false, List.length_cons, List.length_nil, true_and, and_true, exists_const, exists_eq', List.headD_cons, pd_l0, pd_t0, pd_l1, pd_t1, pd_l2, pd_t2, pd_l3, pd_t3, pd_l4, pd_t4, pd_l5, pd_t5, pd_l6, pd_t6, pd_l7, pd_t7, pd_l8, pd_t8, pd_l9, pd_t9, pd_l10, pd_t10, pd_l11, pd_t11, pd_l12, pd_t12, exists_eq]
      refine st_go ?_
      simp only [ok_v, ok_k, ok_op, ok_and, ok_or, ok_not, ok_if, ok_chain, ok_call, ok_callK, ok_mkK, ok_fld, ok_met, ok_sl, ok_mv, ok_lc, ok_pop, ok_es0, ok_es, ok_o0, ok_o1, okT_and, okT_or, okT_not, okT_k, okT_op, okT_ite, okT_chain, okT_call, okT_fld, okT_lc, okT_pop, okT_callK, okT_v, okTs0, okTs1, okI_val, okI_rng, okI_rng2, okI_zip, okI_enu, okI_slot, ok_pass, ok_brk, ok_cont, ok_expr, ok_set, ok_par, ok_unp, ok_augA, ok_seti, ok_setf, ok_app, ok_ifS, ok_for, ok_whl, ok_ret, late_k, late_op, late_and_, late_or_, late_not_, late_ite, late_chain, late_call, late_fld, late_met, late_sl, late_lc, late_pop, late_mv, late_callK, late_mkK, late_v, late_nil, get_c0, get_cs, List.set_cons_zero, List.set_cons_succ, stK_n, setKs_nil, setKs_n, Option.bind_some, Option.map_some, Option.some.injEq, exists_eq_left', exists_eq_left, pr_call, pr_fi, List.append_nil, List.cons_append, List.nil_append, List.map_cons, List.map_nil, List.replicate_succ, List.replicate_zero, D.int.injEq, D.bl.injEq, D.lst.injEq, D.str.injEq, D.tup.injEq, pd_addI, pd_sub, pd_eqI, pd_eqB, pd_eqS, pd_neI, pd_neB, pd_neS, pd_ltI, pd_leI, pd_gtI, pd_geI, pd_leS, pd_isN, pd_intI, pd_list, pd_listT, pd_tuple, pd_dct, truth, isNonD, reduceCtorEq, if_true, if_false, reduceIte, Bool.false_eq_true, Bool.not_true, Bool.not_false, List.length_cons, List.length_nil, true_and, and_true, exists_const, exists_eq', List.headD_cons, pd_l0, pd_t0, pd_l1, pd_t1, pd_l2, pd_t2, pd_l3, pd_t3, pd_l4, pd_t4, pd_l5, pd_t5, pd_l6, pd_t6, pd_l7, pd_t7, pd_l8, pd_t8, pd_l9, pd_t9, pd_l10, pd_t10, pd_l11, pd_t11, pd_l12, pd_t12, exists_eq, List.getElem?_cons_zero, List.getElem?_cons_succ, nx_ret, wipeE, backE, endQ, Fi.io, outsOf, isM, List.headD_cons, List.tail_cons, back, pickE, pick]
    · have hn2 : isNonD d = false := by cases d <;> first | rfl | exact absurd rfl hn
      have hd2 := hd.resolve_left hn
      simp only [ok_v, ok_k, ok_op, ok_and, ok_or, ok_not, ok_if, ok_chain, ok_call, ok_callK, ok_mkK, ok_fld, ok_met, ok_sl, ok_mv, ok_lc, ok_pop, ok_es0, ok_es, ok_o0, ok_o1, okT_and, okT_or, okT_not, okT_k, okT_op, okT_ite, okT_chain, okT_call, okT_fld, okT_lc, okT_pop, okT_callK, okT_v, okTs0, okTs1, okI_val, okI_rng, okI_rng2, okI_zip, okI_enu, okI_slot, ok_pass, ok_brk, ok_cont, ok_expr, ok_set, ok_par, ok_unp, ok_augA, ok_seti, ok_setf, ok_app, ok_ifS, ok_for, ok_whl, ok_ret, late_k, late_op, late_and_, late_or_, late_not_, late_ite, late_chain, late_call, late_fld, late_met, late_sl, late_lc, late_pop, late_mv, late_callK, late_mkK, late_v, late_nil, get_c0, get_cs, List.set_cons_zero, List.set_cons_succ, stK_n, setKs_nil, setKs_n, Option.bind_some, Option.map_some, Option.some.injEq, exists_eq_left', exists_eq_left, pr_call, pr_fi, List.append_nil, List.cons_append, List.nil_append, List.map_cons, List.map_nil, List.replicate_succ, List.replicate_zero, D.int.injEq, D.bl.injEq, D.lst.injEq, D.str.injEq, D.tup.injEq, pd_addI, pd_sub, pd_eqI, pd_eqB, pd_eqS, pd_neI, pd_neB, pd_neS, pd_ltI, pd_leI, pd_gtI, pd_geI, pd_leS, pd_isN, pd_intI, pd_list, pd_listT, pd_tuple, pd_dct, truth, isNonD, reduceCtorEq, if_true, if_false, reduceIte, Bool.false_eq_true, Bool.not_true, Bool.not_false, List.length_cons, List.length_nil, true_and, and_true, exists_const, exists_eq', List.headD_cons, pd_l0, pd_t0, pd_l1, pd_t1, pd_l2, pd_t2, pd_l3, pd_t3, pd_l4, pd_t4, pd_l5, pd_t5, pd_l6, pd_t6, pd_l7, pd_t7, pd_l8, pd_t8, pd_l9, pd_t9, pd_l10, pd_t10, pd_l11, pd_t11, pd_l12, pd_t12, exists_eq, hn2]
      refine st_end0 ?_
      refine st_nx ?_
      obtain ⟨b1, i3⟩ : ∃ b, pD (.isi nC [.ty .bool]) [d] = some (.bl b) := by rcases hd2 with ⟨b, rfl⟩ | ⟨b, rfl⟩ | ⟨b, rfl⟩ <;> exact ⟨_, isi_of rfl rfl rfl⟩
      obtain ⟨b2, i4⟩ : ∃ b, pD (.isi nC [.ty .int]) [d] = some (.bl b) := by rcases hd2 with ⟨b, rfl⟩ | ⟨b, rfl⟩ | ⟨b, rfl⟩ <;> exact ⟨_, isi_of rfl rfl rfl⟩
      obtain ⟨b3, i5⟩ : ∃ b, pD (.isi nC [.ty .str]) [d] = some (.bl b) := by rcases hd2 with ⟨b, rfl⟩ | ⟨b, rfl⟩ | ⟨b, rfl⟩ <;> exact ⟨_, isi_of rfl rfl rfl⟩
      have i6 : pD .eq [d, d] = some (.bl true) := by rcases hd2 with ⟨b, rfl⟩ | ⟨b, rfl⟩ | ⟨b, rfl⟩ <;> simp only [pd_eqB, pd_eqI, pd_eqS, beq_self_eq_true]
      simp only [ok_v, ok_k, ok_op, ok_and, ok_or, ok_not, ok_if, ok_chain, ok_call, ok_callK, ok_mkK, ok_fld, ok_met, ok_sl, ok_mv, ok_lc, ok_pop, ok_es0, ok_es, ok_o0, ok_o1, okT_and, okT_or, okT_not, okT_k, okT_op, okT_ite, okT_chain, okT_call, okT_fld, okT_lc, okT_pop, okT_callK, okT_v, okTs0, okTs1, okI_val, okI_rng, okI_rng2, okI_zip, okI_enu, okI_slot, ok_pass, ok_brk, ok_cont, ok_expr, ok_set, ok_par, ok_unp, ok_augA, ok_seti, ok_setf, ok_app, ok_ifS, ok_for, ok_whl, ok_ret, late_k, late_op, late_and_, late_or_, late_not_, late_ite, late_chain, late_call, late_fld, late_met, late_sl, late_lc, late_pop, late_mv, late_callK, late_mkK, late_v, late_nil, get_c0, get_cs, List.set_cons_zero, List.set_cons_succ, stK_n, setKs_nil, setKs_n, Option.bind_some, Option.map_some, Option.some.injEq, exists_eq_left', exists_eq_left, pr_call, pr_fi, List.append_nil, List.cons_append, List.nil_append, List.map_cons, List.map_nil, List.replicate_succ, List.replicate_zero, D.int.injEq, D.bl.injEq, D.lst.injEq, D.str.injEq, D.tup.injEq, pd_addI, pd_sub, pd_eqI, pd_eqB, pd_eqS, pd_neI, pd_neB, pd_neS, pd_ltI, pd_leI, pd_gtI, pd_geI, pd_leS, pd_isN, pd_intI, pd_list, pd_listT, pd_tuple, pd_dct, truth, isNonD, reduceCtorEq, if_true, if_false, reduceIte, Bool.false_eq_true, Bool.not_true, Bool.not_false, List.length_cons, List.length_nil, true_and, and_true, exists_const, exists_eq', List.headD_cons, pd_l0, pd_t0, pd_l1, pd_t1, pd_l2, pd_t2, pd_l3, pd_t3, pd_l4, pd_t4, pd_l5, pd_t5, pd_l6, pd_t6, pd_l7, pd_t7, pd_l8, pd_t8, pd_l9, pd_t9, pd_l10, pd_t10, pd_l11, pd_t11, pd_l12, pd_t12, exists_eq, i3, i4, beq_self_eq_true]
      refine st_end0 ?_
      refine st_nx ?_
      simp only [ok_v, ok_k, ok_op, ok_and, ok_or, ok_not, ok_if, ok_chain, ok_call, ok_callK, ok_mkK, ok_fld, ok_met, ok_sl, ok_mv, ok_lc, ok_pop, ok_es0, ok_es, ok_o0, ok_o1, okT_and, okT_or, okT_not, okT_k, okT_op, okT_ite, okT_chain, okT_call, okT_fld, okT_lc, okT_pop, okT_callK, okT_v, okTs0, okTs1, okI_val, okI_rng, okI_rng2, okI_zip, okI_enu, okI_slot, ok_pass, ok_brk, ok_cont, ok_expr, ok_set, ok_par, ok_unp, ok_augA, ok_seti, ok_setf, ok_app, ok_ifS, ok_for, ok_whl, ok_ret, late_k, late_op, late_and_, late_or_, late_not_, late_ite, late_chain, late_call, late_fld, late_met, late_sl, late_lc, late_pop, late_mv, late_callK, late_mkK, late_v, late_nil, get_c0, get_cs, List.set_cons_zero, List.set_cons_succ, stK_n, setKs_nil, setKs_n, Option.bind_some, Option.map_some, Option.some.injEq, exists_eq_left', exists_eq_left, pr_call, pr_fi, List.append_nil, List.cons_append, List.nil_append, List.map_cons, List.map_nil, List.replicate_succ, List.replicate_zero, D.int.injEq, D.bl.injEq, D.lst.injEq, D.str.injEq, D.tup.injEq, pd_addI, pd_sub, pd_eqI, pd_eqB, pd_eqS, pd_neI, pd_neB, pd_neS, pd_ltI, pd_leI, pd_gtI, pd_geI, pd_leS, pd_isN, pd_intI, pd_list, pd_listT, pd_tuple, pd_dct, truth, isNonD, reduceCtorEq, if_true, if_false, reduceIte, Bool.false_eq_true, Bool.not_true, Bool.not_false, List.length_cons, List.length_nil, true_and, and_true, exists_const, exists_eq', List.headD_cons, pd_l0, pd_t0, pd_l1, pd_t1, pd_l2, pd_t2, pd_l3, pd_t3, pd_l4, pd_t4, pd_l5, pd_t5, pd_l6, pd_t6, pd_l7, pd_t7, pd_l8, pd_t8, pd_l9, pd_t9, pd_l10, pd_t10, pd_l11, pd_t11, pd_l12, pd_t12, exists_eq, i5, i6, beq_self_eq_true, List.getElem?_cons_zero, List.getElem?_cons_succ, nx_ret, wipeE, backE, endQ, Fi.io, outsOf, isM, List.headD_cons, List.tail_cons, back, pickE, pick]
  intro m
  induction m with
  | zero =>
    intro d hp
    cases d with
    | non => exact flat _ _ (.inl rfl)
    | bl b => exact flat _ _ (.inr (.inl ⟨_, rfl⟩))
    | int b => exact flat _ _ (.inr (.inr (.inl ⟨_, rfl⟩)))
    | str b => exact flat _ _ (.inr (.inr (.inr ⟨_, rfl⟩)))
    | _ => simp [pln] at hp
  | succ m ih =>
    intro d hp
    cases d with
    | non => exact flat _ _ (.inl rfl)
    | bl b => exact flat _ _ (.inr (.inl ⟨_, rfl⟩))
    | int b => exact flat _ _ (.inr (.inr (.inl ⟨_, rfl⟩)))
    | str b => exact flat _ _ (.inr (.inr (.inr ⟨_, rfl⟩)))
    | tup ds =>
      simp only [pln] at hp
      exact seq m ds .tup (.inr rfl) hp fun d hd => ih d (plns_mem (by simp only [Bool.and_eq_true] at hp; exact hp.2) d hd)
    | lst ds =>
      simp only [pln] at hp
      exact seq m ds .lst (.inl rfl) hp fun d hd => ih d (plns_mem (by simp only [Bool.and_eq_true] at hp; exact hp.2) d hd)
    | _ => simp [pln] at hp
end
end TE
/-! Tp4: names, atoms, numbers. -/
namespace TE
open PySem L2
def letr (c : Nat) : Bool := !decide (c < 97) && !decide (122 < c)
def nameB : D → Bool
  | .str s => decide (1 ≤ s.length) && decide (s.length ≤ 8) && s.all letr
  | _ => false
def atomB : D → Bool
  | .tup ds => decide (2 ≤ ds.length) && decide (ds.length ≤ 5) && ds.all nameB
  | _ => false
def numB : D → Bool
  | .int _ => true
  | _ => false
/-- a value that may be asked for its kind -/
def vOk (nC : Nat) (d : D) : Bool := (match tyD d with
  | some t => clOk nC t
  | none => false) && (match d with
  | .str s => small s.length
  | .tup ds => small ds.length
  | .lst ds => small ds.length
  | _ => true)
theorem vOk_ty {nC : Nat} {d : D} (h : vOk nC d = true) : ∃ t, tyD d = some t ∧ clOk nC t = true := by
  unfold vOk at h
  cases h1 : tyD d with
  | none => simp [h1] at h
  | some t => simp [h1] at h; exact ⟨t, rfl, h.1⟩
theorem ltT1 {a b : Nat} : ltT [a] [b] = decide (a < b) := by
  simp [ltT]
def dfName (nC : Nat) : Df := ⟨⟨[.n], true⟩, [.n], [(.ret (.and_ (.op (.isi nC [.ty .str]) [(.v 0)]) (.and_ (.chain .le .le (.k (.int 1)) (.op (.bf .len) [(.v 0)]) (.k (.int 8))) (.op (.bf .all) [(.lc [1] (.nm 1) (.val (.v 0)) [] (.chain .le .le (.k (.str [97])) (.v 1) (.k (.str [122]))))]))))]⟩
def dfAtom (nC nm : Nat) : Df := ⟨⟨[.n], true⟩, [.n], [(.ret (.and_ (.op (.isi nC [.ty .tuple]) [(.v 0)]) (.and_ (.chain .le .le (.k (.int 2)) (.op (.bf .len) [(.v 0)]) (.k (.int 5))) (.op (.bf .all) [(.lc [1] (.nm 1) (.val (.v 0)) [] (.call nm [(.v 1)] []))]))))]⟩
def dfNum (nC : Nat) : Df := ⟨⟨[.n], true⟩, [], [(.ret (.and_ (.op (.isi nC [.ty .int]) [(.v 0)]) (.not_ (.op (.isi nC [.ty .bool]) [(.v 0)]))))]⟩
theorem fiName {nC : Nat} : (dfName nC).fi = ⟨[.n], true⟩ := rfl
theorem fiAtom {nC nm : Nat} : (dfAtom nC nm).fi = ⟨[.n], true⟩ := rfl
theorem fiNum {nC : Nat} : (dfNum nC).fi = ⟨[.n], true⟩ := rfl
section
variable {pg : Pg} {KK n i nC : Nat}
theorem num_ok {d : D} (h : pg.defs[i]? = some (dfNum nC)) (hv : vOk nC d = true) : (pg.callN KK (n + 1) i [d]).Ok fun r o => r = .bl (numB d) ∧ o = [none] := by
  obtain ⟨t, ht, hc⟩ := vOk_ty hv
  refine callN_ok h rfl ?_
  refine st_go ?_
  simp only [ok_v, ok_k, ok_op, ok_and, ok_or, ok_not, ok_if, ok_chain, ok_call, ok_callK, ok_mkK, ok_fld, ok_met, ok_sl, ok_mv, ok_lc, ok_pop, ok_es0, ok_es, ok_o0, ok_o1, okT_and, okT_or, okT_not, okT_k, okT_op, okT_ite, okT_chain, okT_call, okT_fld, okT_lc, okT_pop, okT_callK, okT_v, okTs0, okTs1, okI_val, okI_rng, okI_rng2, okI_zip, okI_enu, okI_slot, ok_pass, ok_brk, ok_cont, ok_expr, ok_set, ok_par, ok_unp, ok_augA, ok_seti, ok_setf, ok_app, ok_ifS, ok_for, ok_whl, ok_ret, late_k, late_op, late_and_, late_or_, late_not_, late_ite, late_chain, late_call, late_fld, late_met, late_sl, late_lc, late_pop, late_mv, late_callK, late_mkK, late_v, late_nil, get_c0, get_cs, List.set_cons_zero, List.set_cons_succ, stK_n, setKs_nil, setKs_n, Option.bind_some, Option.map_some, Option.some.injEq, exists_eq_left', exists_eq_left, pr_call, pr_fi, List.append_nil, List.cons_append, List.nil_append, List.map_cons, List.map_nil, List.replicate_succ, List.replicate_zero, D.int.injEq, D.bl.injEq, D.lst.injEq, D.str.injEq, D.tup.injEq, pd_addI, pd_sub, pd_eqI, pd_eqB, pd_eqS, pd_neI, pd_neB, pd_neS, pd_ltI, pd_leI, pd_gtI, pd_geI, pd_leS, pd_isN, pd_intI, pd_list, pd_listT, pd_tuple, pd_dct, truth, isNonD, reduceCtorEq, if_true, if_false, reduceIte, Bool.false_eq_true, Bool.not_true, Bool.not_false, List.length_cons, List.length_nil, true_and, and_true, exists_const, exists_eq', List.headD_cons, pd_l0, pd_t0, pd_l1, pd_t1, pd_l2, pd_t2, pd_l3, pd_t3, pd_l4, pd_t4, pd_l5, pd_t5, pd_l6, pd_t6, pd_l7, pd_t7, pd_l8, pd_t8, pd_l9, pd_t9, pd_l10, pd_t10, pd_l11, pd_t11, pd_l12, pd_t12, exists_eq, dfNum, pd_isi ht hc, List.getElem?_cons_zero, List.getElem?_cons_succ, nx_ret, wipeE, backE, endQ, Fi.io, outsOf, isM, List.headD_cons, List.tail_cons, back, pickE, pick, List.any_cons, List.any_nil, Bool.or_false]
  split
  · rename_i hh
    revert hh
    cases d <;> simp [isC, numB]
  · rename_i hh
    revert hh
    cases d <;> simp [isC, numB]
theorem name_ok {d : D} (h : pg.defs[i]? = some (dfName nC)) (hv : vOk nC d = true) : (pg.callN KK (n + 1) i [d]).Ok fun r o => r = .bl (nameB d) ∧ o = [none] := by
  obtain ⟨t, ht, hc⟩ := vOk_ty hv
  refine callN_ok h rfl ?_
  refine st_go ?_
  simp only [ok_v, ok_k, ok_op, ok_and, ok_or, ok_not, ok_if, ok_chain, ok_call, ok_callK, ok_mkK, ok_fld, ok_met, ok_sl, ok_mv, ok_lc, ok_pop, ok_es0, ok_es, ok_o0, ok_o1, okT_and, okT_or, okT_not, okT_k, okT_op, okT_ite, okT_chain, okT_call, okT_fld, okT_lc, okT_pop, okT_callK, okT_v, okTs0, okTs1, okI_val, okI_rng, okI_rng2, okI_zip, okI_enu, okI_slot, ok_pass, ok_brk, ok_cont, ok_expr, ok_set, ok_par, ok_unp, ok_augA, ok_seti, ok_setf, ok_app, ok_ifS, ok_for, ok_whl, ok_ret, late_k, late_op, late_and_, late_or_, late_not_, late_ite, late_chain, late_call, late_fld, late_met, late_sl, late_lc, late_pop, late_mv, late_callK, late_mkK, late_v, late_nil, get_c0, get_cs, List.set_cons_zero, List.set_cons_succ, stK_n, setKs_nil, setKs_n, Option.bind_some, Option.map_some, Option.some.injEq, exists_eq_left', exists_eq_left, pr_call, pr_fi, List.append_nil, List.cons_append, List.nil_append, List.map_cons, List.map_nil, List.replicate_succ, List.replicate_zero, D.int.injEq, D.bl.injEq, D.lst.injEq, D.str.injEq, D.tup.injEq, pd_addI, pd_sub, pd_eqI, pd_eqB, pd_eqS, pd_neI, pd_neB, pd_neS, pd_ltI, pd_leI, pd_gtI, pd_geI, pd_leS, pd_isN, pd_intI, pd_list, pd_listT, pd_tuple, pd_dct, truth, isNonD, reduceCtorEq, if_true, if_false, reduceIte, Bool.false_eq_true, Bool.not_true, Bool.not_false, List.length_cons, List.length_nil, true_and, and_true, exists_const, exists_eq', List.headD_cons, pd_l0, pd_t0, pd_l1, pd_t1, pd_l2, pd_t2, pd_l3, pd_t3, pd_l4, pd_t4, pd_l5, pd_t5, pd_l6, pd_t6, pd_l7, pd_t7, pd_l8, pd_t8, pd_l9, pd_t9, pd_l10, pd_t10, pd_l11, pd_t11, pd_l12, pd_t12, exists_eq, dfName, pd_isi ht hc, List.getElem?_cons_zero, List.getElem?_cons_succ, nx_ret, wipeE, backE, endQ, Fi.io, outsOf, isM, List.headD_cons, List.tail_cons, back, pickE, pick, List.any_cons, List.any_nil, Bool.or_false]
  cases d with
  | str s =>
    have hs : small s.length = true := by simpa [vOk, tyD, clOk] using hv
    have hl : s.length ≤ 1000000 := by unfold small at hs; exact of_decide_eq_true hs
    simp only [isC, ok_v, ok_k, ok_op, ok_and, ok_or, ok_not, ok_if, ok_chain, ok_call, ok_callK, ok_mkK, ok_fld, ok_met, ok_sl, ok_mv, ok_lc, ok_pop, ok_es0, ok_es, ok_o0, ok_o1, okT_and, okT_or, okT_not, okT_k, okT_op, okT_ite, okT_chain, okT_call, okT_fld, okT_lc, okT_pop, okT_callK, okT_v, okTs0, okTs1, okI_val, okI_rng, okI_rng2, okI_zip, okI_enu, okI_slot, ok_pass, ok_brk, ok_cont, ok_expr, ok_set, ok_par, ok_unp, ok_augA, ok_seti, ok_setf, ok_app, ok_ifS, ok_for, ok_whl, ok_ret, late_k, late_op, late_and_, late_or_, late_not_, late_ite, late_chain, late_call, late_fld, late_met, late_sl, late_lc, late_pop, late_mv, late_callK, late_mkK, late_v, late_nil, get_c0, get_cs, List.set_cons_zero, List.set_cons_succ, stK_n, setKs_nil, setKs_n, Option.bind_some, Option.map_some, Option.some.injEq, exists_eq_left', exists_eq_left, pr_call, pr_fi, List.append_nil, List.cons_append, List.nil_append, List.map_cons, List.map_nil, List.replicate_succ, List.replicate_zero, D.int.injEq, D.bl.injEq, D.lst.injEq, D.str.injEq, D.tup.injEq, pd_addI, pd_sub, pd_eqI, pd_eqB, pd_eqS, pd_neI, pd_neB, pd_neS, pd_ltI, pd_leI, pd_gtI, pd_geI, pd_leS, pd_isN, pd_intI, pd_list, pd_listT, pd_tuple, pd_dct, truth, isNonD, reduceCtorEq, if_true, if_false, reduceIte, Bool.false_eq_true, Bool.not_true, Bool.not_false, List.length_cons, List.length_nil, true_and, and_true, exists_const, exists_eq', List.headD_cons, pd_l0, pd_t0, pd_l1, pd_t1, pd_l2, pd_t2, pd_l3, pd_t3, pd_l4, pd_t4, pd_l5, pd_t5, pd_l6, pd_t6, pd_l7, pd_t7, pd_l8, pd_t8, pd_l9, pd_t9, pd_l10, pd_t10, pd_l11, pd_t11, pd_l12, pd_t12, exists_eq, pd_lenS hs]
    by_cases h1 : 1 ≤ s.length
    · have e1 : decide ((1 : Int) ≤ s.length) = true := decide_eq_true (by omega)
      simp only [ok_v, ok_k, ok_op, ok_and, ok_or, ok_not, ok_if, ok_chain, ok_call, ok_callK, ok_mkK, ok_fld, ok_met, ok_sl, ok_mv, ok_lc, ok_pop, ok_es0, ok_es, ok_o0, ok_o1, okT_and, okT_or, okT_not, okT_k, okT_op, okT_ite, okT_chain, okT_call, okT_fld, okT_lc, okT_pop, okT_callK, okT_v, okTs0, okTs1, okI_val, okI_rng, okI_rng2, okI_zip, okI_enu, okI_slot, ok_pass, ok_brk, ok_cont, ok_expr, ok_set, ok_par, ok_unp, ok_augA, ok_seti, ok_setf, ok_app, ok_ifS, ok_for, ok_whl, ok_ret, late_k, late_op, late_and_, late_or_, late_not_, late_ite, late_chain, late_call, late_fld, late_met, late_sl, late_lc, late_pop, late_mv, late_callK, late_mkK, late_v, late_nil, get_c0, get_cs, List.set_cons_zero, List.set_cons_succ, stK_n, setKs_nil, setKs_n, Option.bind_some, Option.map_some, Option.some.injEq, exists_eq_left', exists_eq_left, pr_call, pr_fi, List.append_nil, List.cons_append, List.nil_append, List.map_cons, List.map_nil, List.replicate_succ, List.replicate_zero, D.int.injEq, D.bl.injEq, D.lst.injEq, D.str.injEq, D.tup.injEq, pd_addI, pd_sub, pd_eqI, pd_eqB, pd_eqS, pd_neI, pd_neB, pd_neS, pd_ltI, pd_leI, pd_gtI, pd_geI, pd_leS, pd_isN, pd_intI, pd_list, pd_listT, pd_tuple, pd_dct, truth, isNonD, reduceCtorEq, if_true, if_false, reduceIte, Bool.false_eq_true, Bool.not_true, Bool.not_false, List.length_cons, List.length_nil, true_and, and_true, exists_const, exists_eq', List.headD_cons, pd_l0, pd_t0, pd_l1, pd_t1, pd_l2, pd_t2, pd_l3, pd_t3, pd_l4, pd_t4, pd_l5, pd_t5, pd_l6, pd_t6, pd_l7, pd_t7, pd_l8, pd_t8, pd_l9, pd_t9, pd_l10, pd_t10, pd_l11, pd_t11, pd_l12, pd_t12, exists_eq, e1]
      by_cases h8 : s.length ≤ 8
      · have e2 : decide ((s.length : Int) ≤ 8) = true := decide_eq_true (by omega)
        simp only [ok_v, ok_k, ok_op, ok_and, ok_or, ok_not, ok_if, ok_chain, ok_call, ok_callK, ok_mkK, ok_fld, ok_met, ok_sl, ok_mv, ok_lc, ok_pop, ok_es0, ok_es, ok_o0, ok_o1, okT_and, okT_or, okT_not, okT_k, okT_op, okT_ite, okT_chain, okT_call, okT_fld, okT_lc, okT_pop, okT_callK, okT_v, okTs0, okTs1, okI_val, okI_rng, okI_rng2, okI_zip, okI_enu, okI_slot, ok_pass, ok_brk, ok_cont, ok_expr, ok_set, ok_par, ok_unp, ok_augA, ok_seti, ok_setf, ok_app, ok_ifS, ok_for, ok_whl, ok_ret, late_k, late_op, late_and_, late_or_, late_not_, late_ite, late_chain, late_call, late_fld, late_met, late_sl, late_lc, late_pop, late_mv, late_callK, late_mkK, late_v, late_nil, get_c0, get_cs, List.set_cons_zero, List.set_cons_succ, stK_n, setKs_nil, setKs_n, Option.bind_some, Option.map_some, Option.some.injEq, exists_eq_left', exists_eq_left, pr_call, pr_fi, List.append_nil, List.cons_append, List.nil_append, List.map_cons, List.map_nil, List.replicate_succ, List.replicate_zero, D.int.injEq, D.bl.injEq, D.lst.injEq, D.str.injEq, D.tup.injEq, pd_addI, pd_sub, pd_eqI, pd_eqB, pd_eqS, pd_neI, pd_neB, pd_neS, pd_ltI, pd_leI, pd_gtI, pd_geI, pd_leS, pd_isN, pd_intI, pd_list, pd_listT, pd_tuple, pd_dct, truth, isNonD, reduceCtorEq, if_true, if_false, reduceIte, Bool.false_eq_true, Bool.not_true, Bool.not_false, List.length_cons, List.length_nil, true_and, and_true, exists_const, exists_eq', List.headD_cons, pd_l0, pd_t0, pd_l1, pd_t1, pd_l2, pd_t2, pd_l3, pd_t3, pd_l4, pd_t4, pd_l5, pd_t5, pd_l6, pd_t6, pd_l7, pd_t7, pd_l8, pd_t8, pd_l9, pd_t9, pd_l10, pd_t10, pd_l11, pd_t11, pd_l12, pd_t12, exists_eq, e2, itD]
        refine lcL_ok (fun xs e acc => ∃ done rest : List Nat, done ++ rest = s ∧ xs = rest.map (fun c => .str [c]) ∧ acc = (done.map letr).map .bl ∧ ∃ x, e = [some (.str s), x]) ?_ ?_ _ _ _ ?_
        · rintro x xs e acc ⟨done, rest, hd, hx, rfl, x1, rfl⟩
          cases rest with
          | nil => cases hx
          | cons c rest =>
            simp only [List.map_cons, List.cons.injEq] at hx
            obtain ⟨rfl, rfl⟩ := hx
            refine ⟨rfl, _, rfl, ?_⟩
            have hlen : done.length ≤ 1000000 := by
              have := congrArg List.length hd
              rw [List.length_append] at this
              omega
            simp only [ok_v, ok_k, ok_op, ok_and, ok_or, ok_not, ok_if, ok_chain, ok_call, ok_callK, ok_mkK, ok_fld, ok_met, ok_sl, ok_mv, ok_lc, ok_pop, ok_es0, ok_es, ok_o0, ok_o1, okT_and, okT_or, okT_not, okT_k, okT_op, okT_ite, okT_chain, okT_call, okT_fld, okT_lc, okT_pop, okT_callK, okT_v, okTs0, okTs1, okI_val, okI_rng, okI_rng2, okI_zip, okI_enu, okI_slot, ok_pass, ok_brk, ok_cont, ok_expr, ok_set, ok_par, ok_unp, ok_augA, ok_seti, ok_setf, ok_app, ok_ifS, ok_for, ok_whl, ok_ret, late_k, late_op, late_and_, late_or_, late_not_, late_ite, late_chain, late_call, late_fld, late_met, late_sl, late_lc, late_pop, late_mv, late_callK, late_mkK, late_v, late_nil, get_c0, get_cs, List.set_cons_zero, List.set_cons_succ, stK_n, setKs_nil, setKs_n, Option.bind_some, Option.map_some, Option.some.injEq, exists_eq_left', exists_eq_left, pr_call, pr_fi, List.append_nil, List.cons_append, List.nil_append, List.map_cons, List.map_nil, List.replicate_succ, List.replicate_zero, D.int.injEq, D.bl.injEq, D.lst.injEq, D.str.injEq, D.tup.injEq, pd_addI, pd_sub, pd_eqI, pd_eqB, pd_eqS, pd_neI, pd_neB, pd_neS, pd_ltI, pd_leI, pd_gtI, pd_geI, pd_leS, pd_isN, pd_intI, pd_list, pd_listT, pd_tuple, pd_dct, truth, isNonD, reduceCtorEq, if_true, if_false, reduceIte, Bool.false_eq_true, Bool.not_true, Bool.not_false, List.length_cons, List.length_nil, true_and, and_true, exists_const, exists_eq', List.headD_cons, pd_l0, pd_t0, pd_l1, pd_t1, pd_l2, pd_t2, pd_l3, pd_t3, pd_l4, pd_t4, pd_l5, pd_t5, pd_l6, pd_t6, pd_l7, pd_t7, pd_l8, pd_t8, pd_l9, pd_t9, pd_l10, pd_t10, pd_l11, pd_t11, pd_l12, pd_t12, exists_eq, ltT1]
            have fin : ∀ b, b = letr c → small ((done.map letr).map D.bl).length = true ∧ ∃ done' rest', done' ++ rest' = s ∧ rest.map (fun c => D.str [c]) = rest'.map (fun c => .str [c]) ∧ (done.map letr).map D.bl ++ [.bl b] = (done'.map letr).map .bl ∧ ∃ x, wipeE [some (.str s), some (.str [c])] [1] = [some (.str s), x] := by
              rintro b rfl
              refine ⟨small_le (by simpa using hlen), done ++ [c], rest, ?_, rfl, by simp, _, rfl⟩
              rw [← hd, List.append_assoc]; rfl
            by_cases hc1 : c < 97
            · simp only [ok_v, ok_k, ok_op, ok_and, ok_or, ok_not, ok_if, ok_chain, ok_call, ok_callK, ok_mkK, ok_fld, ok_met, ok_sl, ok_mv, ok_lc, ok_pop, ok_es0, ok_es, ok_o0, ok_o1, okT_and, okT_or, okT_not, okT_k, okT_op, okT_ite, okT_chain, okT_call, okT_fld, okT_lc, okT_pop, okT_callK, okT_v, okTs0, okTs1, okI_val, okI_rng, okI_rng2, okI_zip, okI_enu, okI_slot, ok_pass, ok_brk, ok_cont, ok_expr, ok_set, ok_par, ok_unp, ok_augA, ok_seti, ok_setf, ok_app, ok_ifS, ok_for, ok_whl, ok_ret, late_k, late_op, late_and_, late_or_, late_not_, late_ite, late_chain, late_call, late_fld, late_met, late_sl, late_lc, late_pop, late_mv, late_callK, late_mkK, late_v, late_nil, get_c0, get_cs, List.set_cons_zero, List.set_cons_succ, stK_n, setKs_nil, setKs_n, Option.bind_some, Option.map_some, Option.some.injEq, exists_eq_left', exists_eq_left, pr_call, pr_fi, List.append_nil, List.cons_append, List.nil_append, List.map_cons, List.map_nil, List.replicate_succ, List.replicate_zero, D.int.injEq, D.bl.injEq, D.lst.injEq, D.str.injEq, D.tup.injEq, pd_addI, pd_sub, pd_eqI, pd_eqB, pd_eqS, pd_neI, pd_neB, pd_neS, pd_ltI, pd_leI, pd_gtI, pd_geI, pd_leS, pd_isN, pd_intI, pd_list, pd_listT, pd_tuple, pd_dct, truth, isNonD, reduceCtorEq, if_true, if_false, reduceIte, Bool.false_eq_true, Bool.not_true, Bool.not_false, List.length_cons, List.length_nil, true_and, and_true, exists_const, exists_eq', List.headD_cons, pd_l0, pd_t0, pd_l1, pd_t1, pd_l2, pd_t2, pd_l3, pd_t3, pd_l4, pd_t4, pd_l5, pd_t5, pd_l6, pd_t6, pd_l7, pd_t7, pd_l8, pd_t8, pd_l9, pd_t9, pd_l10, pd_t10, pd_l11, pd_t11, pd_l12, pd_t12, exists_eq, decide_eq_true hc1]
              exact fin _ (by simp [letr, hc1])
            · simp only [ok_v, ok_k, ok_op, ok_and, ok_or, ok_not, ok_if, ok_chain, ok_call, ok_callK, ok_mkK, ok_fld, ok_met, ok_sl, ok_mv, ok_lc, ok_pop, ok_es0, ok_es, ok_o0, ok_o1, okT_and, okT_or, okT_not, okT_k, okT_op, okT_ite, okT_chain, okT_call, okT_fld, okT_lc, okT_pop, okT_callK, okT_v, okTs0, okTs1, okI_val, okI_rng, okI_rng2, okI_zip, okI_enu, okI_slot, ok_pass, ok_brk, ok_cont, ok_expr, ok_set, ok_par, ok_unp, ok_augA, ok_seti, ok_setf, ok_app, ok_ifS, ok_for, ok_whl, ok_ret, late_k, late_op, late_and_, late_or_, late_not_, late_ite, late_chain, late_call, late_fld, late_met, late_sl, late_lc, late_pop, late_mv, late_callK, late_mkK, late_v, late_nil, get_c0, get_cs, List.set_cons_zero, List.set_cons_succ, stK_n, setKs_nil, setKs_n, Option.bind_some, Option.map_some, Option.some.injEq, exists_eq_left', exists_eq_left, pr_call, pr_fi, List.append_nil, List.cons_append, List.nil_append, List.map_cons, List.map_nil, List.replicate_succ, List.replicate_zero, D.int.injEq, D.bl.injEq, D.lst.injEq, D.str.injEq, D.tup.injEq, pd_addI, pd_sub, pd_eqI, pd_eqB, pd_eqS, pd_neI, pd_neB, pd_neS, pd_ltI, pd_leI, pd_gtI, pd_geI, pd_leS, pd_isN, pd_intI, pd_list, pd_listT, pd_tuple, pd_dct, truth, isNonD, reduceCtorEq, if_true, if_false, reduceIte, Bool.false_eq_true, Bool.not_true, Bool.not_false, List.length_cons, List.length_nil, true_and, and_true, exists_const, exists_eq', List.headD_cons, pd_l0, pd_t0, pd_l1, pd_t1, pd_l2, pd_t2, pd_l3, pd_t3, pd_l4, pd_t4, pd_l5, pd_t5, pd_l6, pd_t6, pd_l7, pd_t7, pd_l8, pd_t8, pd_l9, pd_t9, pd_l10, pd_t10, pd_l11, pd_t11, pd_l12, pd_t12, exists_eq, decide_eq_false hc1]
              exact fin _ (by simp [letr, hc1])
        · rintro e acc ⟨done, rest, hd, hx, rfl, x1, rfl⟩
          have : rest = [] := by cases rest with
            | nil => rfl
            | cons _ _ => cases hx
          subst this
          rw [List.append_nil] at hd
          subst hd
          refine ⟨rfl, ?_⟩
          simp only [ok_v, ok_k, ok_op, ok_and, ok_or, ok_not, ok_if, ok_chain, ok_call, ok_callK, ok_mkK, ok_fld, ok_met, ok_sl, ok_mv, ok_lc, ok_pop, ok_es0, ok_es, ok_o0, ok_o1, okT_and, okT_or, okT_not, okT_k, okT_op, okT_ite, okT_chain, okT_call, okT_fld, okT_lc, okT_pop, okT_callK, okT_v, okTs0, okTs1, okI_val, okI_rng, okI_rng2, okI_zip, okI_enu, okI_slot, ok_pass, ok_brk, ok_cont, ok_expr, ok_set, ok_par, ok_unp, ok_augA, ok_seti, ok_setf, ok_app, ok_ifS, ok_for, ok_whl, ok_ret, late_k, late_op, late_and_, late_or_, late_not_, late_ite, late_chain, late_call, late_fld, late_met, late_sl, late_lc, late_pop, late_mv, late_callK, late_mkK, late_v, late_nil, get_c0, get_cs, List.set_cons_zero, List.set_cons_succ, stK_n, setKs_nil, setKs_n, Option.bind_some, Option.map_some, Option.some.injEq, exists_eq_left', exists_eq_left, pr_call, pr_fi, List.append_nil, List.cons_append, List.nil_append, List.map_cons, List.map_nil, List.replicate_succ, List.replicate_zero, D.int.injEq, D.bl.injEq, D.lst.injEq, D.str.injEq, D.tup.injEq, pd_addI, pd_sub, pd_eqI, pd_eqB, pd_eqS, pd_neI, pd_neB, pd_neS, pd_ltI, pd_leI, pd_gtI, pd_geI, pd_leS, pd_isN, pd_intI, pd_list, pd_listT, pd_tuple, pd_dct, truth, isNonD, reduceCtorEq, if_true, if_false, reduceIte, Bool.false_eq_true, Bool.not_true, Bool.not_false, List.length_cons, List.length_nil, true_and, and_true, exists_const, exists_eq', List.headD_cons, pd_l0, pd_t0, pd_l1, pd_t1, pd_l2, pd_t2, pd_l3, pd_t3, pd_l4, pd_t4, pd_l5, pd_t5, pd_l6, pd_t6, pd_l7, pd_t7, pd_l8, pd_t8, pd_l9, pd_t9, pd_l10, pd_t10, pd_l11, pd_t11, pd_l12, pd_t12, exists_eq, List.getElem?_cons_zero, List.getElem?_cons_succ, nx_ret, wipeE, backE, endQ, Fi.io, outsOf, isM, List.headD_cons, List.tail_cons, back, pickE, pick, pd_all, nameB, decide_eq_true h1, decide_eq_true h8, List.all_map]
          rfl
        · exact ⟨[], s, rfl, rfl, rfl, _, rfl⟩
      · have e2 : decide ((s.length : Int) ≤ 8) = false := decide_eq_false (by omega)
        simp only [ok_v, ok_k, ok_op, ok_and, ok_or, ok_not, ok_if, ok_chain, ok_call, ok_callK, ok_mkK, ok_fld, ok_met, ok_sl, ok_mv, ok_lc, ok_pop, ok_es0, ok_es, ok_o0, ok_o1, okT_and, okT_or, okT_not, okT_k, okT_op, okT_ite, okT_chain, okT_call, okT_fld, okT_lc, okT_pop, okT_callK, okT_v, okTs0, okTs1, okI_val, okI_rng, okI_rng2, okI_zip, okI_enu, okI_slot, ok_pass, ok_brk, ok_cont, ok_expr, ok_set, ok_par, ok_unp, ok_augA, ok_seti, ok_setf, ok_app, ok_ifS, ok_for, ok_whl, ok_ret, late_k, late_op, late_and_, late_or_, late_not_, late_ite, late_chain, late_call, late_fld, late_met, late_sl, late_lc, late_pop, late_mv, late_callK, late_mkK, late_v, late_nil, get_c0, get_cs, List.set_cons_zero, List.set_cons_succ, stK_n, setKs_nil, setKs_n, Option.bind_some, Option.map_some, Option.some.injEq, exists_eq_left', exists_eq_left, pr_call, pr_fi, List.append_nil, List.cons_append, List.nil_append, List.map_cons, List.map_nil, List.replicate_succ, List.replicate_zero, D.int.injEq, D.bl.injEq, D.lst.injEq, D.str.injEq, D.tup.injEq, pd_addI, pd_sub, pd_eqI, pd_eqB, pd_eqS, pd_neI, pd_neB, pd_neS, pd_ltI, pd_leI, pd_gtI, pd_geI, pd_leS, pd_isN, pd_intI, pd_list, pd_listT, pd_tuple, pd_dct, truth, isNonD, reduceCtorEq, if_true, if_false, reduceIte, Bool.false_eq_true, Bool.not_true, Bool.not_false, List.length_cons, List.length_nil, true_and, and_true, exists_const, exists_eq', List.headD_cons, pd_l0, pd_t0, pd_l1, pd_t1, pd_l2, pd_t2, pd_l3, pd_t3, pd_l4, pd_t4, pd_l5, pd_t5, pd_l6, pd_t6, pd_l7, pd_t7, pd_l8, pd_t8, pd_l9, pd_t9, pd_l10, pd_t10, pd_l11, pd_t11, pd_l12, pd_t12, exists_eq, e2, List.getElem?_cons_zero, List.getElem?_cons_succ, nx_ret, wipeE, backE, endQ, Fi.io, outsOf, isM, List.headD_cons, List.tail_cons, back, pickE, pick, nameB, decide_eq_false h8, Bool.and_false, Bool.false_and]
    · have e1 : decide ((1 : Int) ≤ s.length) = false := decide_eq_false (by omega)
      simp only [ok_v, ok_k, ok_op, ok_and, ok_or, ok_not, ok_if, ok_chain, ok_call, ok_callK, ok_mkK, ok_fld, ok_met, ok_sl, ok_mv, ok_lc, ok_pop, ok_es0, ok_es, ok_o0, ok_o1, okT_and, okT_or, okT_not, okT_k, okT_op, okT_ite, okT_chain, okT_call, okT_fld, okT_lc, okT_pop, okT_callK, okT_v, okTs0, okTs1, okI_val, okI_rng, okI_rng2, okI_zip, okI_enu, okI_slot, ok_pass, ok_brk, ok_cont, ok_expr, ok_set, ok_par, ok_unp, ok_augA, ok_seti, ok_setf, ok_app, ok_ifS, ok_for, ok_whl, ok_ret, late_k, late_op, late_and_, late_or_, late_not_, late_ite, late_chain, late_call, late_fld, late_met, late_sl, late_lc, late_pop, late_mv, late_callK, late_mkK, late_v, late_nil, get_c0, get_cs, List.set_cons_zero, List.set_cons_succ, stK_n, setKs_nil, setKs_n, Option.bind_some, Option.map_some, Option.some.injEq, exists_eq_left', exists_eq_left, pr_call, pr_fi, List.append_nil, List.cons_append, List.nil_append, List.map_cons, List.map_nil, List.replicate_succ, List.replicate_zero, D.int.injEq, D.bl.injEq, D.lst.injEq, D.str.injEq, D.tup.injEq, pd_addI, pd_sub, pd_eqI, pd_eqB, pd_eqS, pd_neI, pd_neB, pd_neS, pd_ltI, pd_leI, pd_gtI, pd_geI, pd_leS, pd_isN, pd_intI, pd_list, pd_listT, pd_tuple, pd_dct, truth, isNonD, reduceCtorEq, if_true, if_false, reduceIte, Bool.false_eq_true, Bool.not_true, Bool.not_false, List.length_cons, List.length_nil, true_and, and_true, exists_const, exists_eq', List.headD_cons, pd_l0, pd_t0, pd_l1, pd_t1, pd_l2, pd_t2, pd_l3, pd_t3, pd_l4, pd_t4, pd_l5, pd_t5, pd_l6, pd_t6, pd_l7, pd_t7, pd_l8, pd_t8, pd_l9, pd_t9, pd_l10, pd_t10, pd_l11, pd_t11, pd_l12, pd_t12, exists_eq, e1, List.getElem?_cons_zero, List.getElem?_cons_succ, nx_ret, wipeE, backE, endQ, Fi.io, outsOf, isM, List.headD_cons, List.tail_cons, back, pickE, pick, nameB, decide_eq_false h1, Bool.and_false, Bool.false_and]
  | _ => simp only [isC, ok_v, ok_k, ok_op, ok_and, ok_or, ok_not, ok_if, ok_chain, ok_call, ok_callK, ok_mkK, ok_fld, ok_met, ok_sl, ok_mv, ok_lc, ok_pop, ok_es0, ok_es, ok_o0, ok_o1, okT_and, okT_or, okT_not, okT_k, okT_op, okT_ite, okT_chain, okT_call, okT_fld, okT_lc, okT_pop, okT_callK, okT_v, okTs0, okTs1, okI_val, okI_rng, okI_rng2, okI_zip, okI_enu, okI_slot, ok_pass, ok_brk, ok_cont, ok_expr, ok_set, ok_par, ok_unp, ok_augA, ok_seti, ok_setf, ok_app, ok_ifS, ok_for, ok_whl, ok_ret, late_k, late_op, late_and_, late_or_, late_not_, late_ite, late_chain, late_call, late_fld, late_met, late_sl, late_lc, late_pop, late_mv, late_callK, late_mkK, late_v, late_nil, get_c0, get_cs, List.set_cons_zero, List.set_cons_succ, stK_n, setKs_nil, setKs_n, Option.bind_some, Option.map_some, Option.some.injEq, exists_eq_left', exists_eq_left, pr_call, pr_fi, List.append_nil, List.cons_append, List.nil_append, List.map_cons, List.map_nil, List.replicate_succ, List.replicate_zero, D.int.injEq, D.bl.injEq, D.lst.injEq, D.str.injEq, D.tup.injEq, pd_addI, pd_sub, pd_eqI, pd_eqB, pd_eqS, pd_neI, pd_neB, pd_neS, pd_ltI, pd_leI, pd_gtI, pd_geI, pd_leS, pd_isN, pd_intI, pd_list, pd_listT, pd_tuple, pd_dct, truth, isNonD, reduceCtorEq, if_true, if_false, reduceIte, Bool.false_eq_true, Bool.not_true, Bool.not_false, List.length_cons, List.length_nil, true_and, and_true, exists_const, exists_eq', List.headD_cons, pd_l0, pd_t0, pd_l1, pd_t1, pd_l2, pd_t2, pd_l3, pd_t3, pd_l4, pd_t4, pd_l5, pd_t5, pd_l6, pd_t6, pd_l7, pd_t7, pd_l8, pd_t8, pd_l9, pd_t9, pd_l10, pd_t10, pd_l11, pd_t11, pd_l12, pd_t12, exists_eq, List.getElem?_cons_zero, List.getElem?_cons_succ, nx_ret, wipeE, backE, endQ, Fi.io, outsOf, isM, List.headD_cons, List.tail_cons, back, pickE, pick, nameB]
theorem atom_ok {d : D} {nm : Nat} (h : pg.defs[i]? = some (dfAtom nC nm)) (hn : pg.defs[nm]? = some (dfName nC)) (hv : vOk nC d = true) (hp : ∀ ds, d = .tup ds → ∀ x ∈ ds, vOk nC x = true) : (pg.callN KK (n + 2) i [d]).Ok fun r o => r = .bl (atomB d) ∧ o = [none] := by
  obtain ⟨t, ht, hc⟩ := vOk_ty hv
  refine callN_ok h rfl ?_
  refine st_go ?_
  simp only [ok_v, ok_k, ok_op, ok_and, ok_or, ok_not, ok_if, ok_chain, ok_call, ok_callK, ok_mkK, ok_fld, ok_met, ok_sl, ok_mv, ok_lc, ok_pop, ok_es0, ok_es, ok_o0, ok_o1, okT_and, okT_or, okT_not, okT_k, okT_op, okT_ite, okT_chain, okT_call, okT_fld, okT_lc, okT_pop, okT_callK, okT_v, okTs0, okTs1, okI_val, okI_rng, okI_rng2, okI_zip, okI_enu, okI_slot, ok_pass, ok_brk, ok_cont, ok_expr, ok_set, ok_par, ok_unp, ok_augA, ok_seti, ok_setf, ok_app, ok_ifS, ok_for, ok_whl, ok_ret, late_k, late_op, late_and_, late_or_, late_not_, late_ite, late_chain, late_call, late_fld, late_met, late_sl, late_lc, late_pop, late_mv, late_callK, late_mkK, late_v, late_nil, get_c0, get_cs, List.set_cons_zero, List.set_cons_succ, stK_n, setKs_nil, setKs_n, Option.bind_some, Option.map_some, Option.some.injEq, exists_eq_left', exists_eq_left, pr_call, pr_fi, List.append_nil, List.cons_append, List.nil_append, List.map_cons, List.map_nil, List.replicate_succ, List.replicate_zero, D.int.injEq, D.bl.injEq, D.lst.injEq, D.str.injEq, D.tup.injEq, pd_addI, pd_sub, pd_eqI, pd_eqB, pd_eqS, pd_neI, pd_neB, pd_neS, pd_ltI, pd_leI, pd_gtI, pd_geI, pd_leS, pd_isN, pd_intI, pd_list, pd_listT, pd_tuple, pd_dct, truth, isNonD, reduceCtorEq, if_true, if_false, reduceIte, Bool.false_eq_true, Bool.not_true, Bool.not_false, List.length_cons, List.length_nil, true_and, and_true, exists_const, exists_eq', List.headD_cons, pd_l0, pd_t0, pd_l1, pd_t1, pd_l2, pd_t2, pd_l3, pd_t3, pd_l4, pd_t4, pd_l5, pd_t5, pd_l6, pd_t6, pd_l7, pd_t7, pd_l8, pd_t8, pd_l9, pd_t9, pd_l10, pd_t10, pd_l11, pd_t11, pd_l12, pd_t12, exists_eq, dfAtom, pd_isi ht hc, List.getElem?_cons_zero, List.getElem?_cons_succ, nx_ret, wipeE, backE, endQ, Fi.io, outsOf, isM, List.headD_cons, List.tail_cons, back, pickE, pick, List.any_cons, List.any_nil, Bool.or_false]
  cases d with
  | tup ds =>
    have hs : small ds.length = true := by simpa [vOk, tyD, clOk] using hv
    have hl : ds.length ≤ 1000000 := by unfold small at hs; exact of_decide_eq_true hs
    have hp := hp ds rfl
    simp only [isC, ok_v, ok_k, ok_op, ok_and, ok_or, ok_not, ok_if, ok_chain, ok_call, ok_callK, ok_mkK, ok_fld, ok_met, ok_sl, ok_mv, ok_lc, ok_pop, ok_es0, ok_es, ok_o0, ok_o1, okT_and, okT_or, okT_not, okT_k, okT_op, okT_ite, okT_chain, okT_call, okT_fld, okT_lc, okT_pop, okT_callK, okT_v, okTs0, okTs1, okI_val, okI_rng, okI_rng2, okI_zip, okI_enu, okI_slot, ok_pass, ok_brk, ok_cont, ok_expr, ok_set, ok_par, ok_unp, ok_augA, ok_seti, ok_setf, ok_app, ok_ifS, ok_for, ok_whl, ok_ret, late_k, late_op, late_and_, late_or_, late_not_, late_ite, late_chain, late_call, late_fld, late_met, late_sl, late_lc, late_pop, late_mv, late_callK, late_mkK, late_v, late_nil, get_c0, get_cs, List.set_cons_zero, List.set_cons_succ, stK_n, setKs_nil, setKs_n, Option.bind_some, Option.map_some, Option.some.injEq, exists_eq_left', exists_eq_left, pr_call, pr_fi, List.append_nil, List.cons_append, List.nil_append, List.map_cons, List.map_nil, List.replicate_succ, List.replicate_zero, D.int.injEq, D.bl.injEq, D.lst.injEq, D.str.injEq, D.tup.injEq, pd_addI, pd_sub, pd_eqI, pd_eqB, pd_eqS, pd_neI, pd_neB, pd_neS, pd_ltI, pd_leI, pd_gtI, pd_geI, pd_leS, pd_isN, pd_intI, pd_list, pd_listT, pd_tuple, pd_dct, truth, isNonD, reduceCtorEq, if_true, if_false, reduceIte, Bool.false_eq_true, Bool.not_true, Bool.not_false, List.length_cons, List.length_nil, true_and, and_true, exists_const, exists_eq', List.headD_cons, pd_l0, pd_t0, pd_l1, pd_t1, pd_l2, pd_t2, pd_l3, pd_t3, pd_l4, pd_t4, pd_l5, pd_t5, pd_l6, pd_t6, pd_l7, pd_t7, pd_l8, pd_t8, pd_l9, pd_t9, pd_l10, pd_t10, pd_l11, pd_t11, pd_l12, pd_t12, exists_eq, pd_lenT hs]
    by_cases h1 : 2 ≤ ds.length
    · have e1 : decide ((2 : Int) ≤ ds.length) = true := decide_eq_true (by omega)
      simp only [ok_v, ok_k, ok_op, ok_and, ok_or, ok_not, ok_if, ok_chain, ok_call, ok_callK, ok_mkK, ok_fld, ok_met, ok_sl, ok_mv, ok_lc, ok_pop, ok_es0, ok_es, ok_o0, ok_o1, okT_and, okT_or, okT_not, okT_k, okT_op, okT_ite, okT_chain, okT_call, okT_fld, okT_lc, okT_pop, okT_callK, okT_v, okTs0, okTs1, okI_val, okI_rng, okI_rng2, okI_zip, okI_enu, okI_slot, ok_pass, ok_brk, ok_cont, ok_expr, ok_set, ok_par, ok_unp, ok_augA, ok_seti, ok_setf, ok_app, ok_ifS, ok_for, ok_whl, ok_ret, late_k, late_op, late_and_, late_or_, late_not_, late_ite, late_chain, late_call, late_fld, late_met, late_sl, late_lc, late_pop, late_mv, late_callK, late_mkK, late_v, late_nil, get_c0, get_cs, List.set_cons_zero, List.set_cons_succ, stK_n, setKs_nil, setKs_n, Option.bind_some, Option.map_some, Option.some.injEq, exists_eq_left', exists_eq_left, pr_call, pr_fi, List.append_nil, List.cons_append, List.nil_append, List.map_cons, List.map_nil, List.replicate_succ, List.replicate_zero, D.int.injEq, D.bl.injEq, D.lst.injEq, D.str.injEq, D.tup.injEq, pd_addI, pd_sub, pd_eqI, pd_eqB, pd_eqS, pd_neI, pd_neB, pd_neS, pd_ltI, pd_leI, pd_gtI, pd_geI, pd_leS, pd_isN, pd_intI, pd_list, pd_listT, pd_tuple, pd_dct, truth, isNonD, reduceCtorEq, if_true, if_false, reduceIte, Bool.false_eq_true, Bool.not_true, Bool.not_false, List.length_cons, List.length_nil, true_and, and_true, exists_const, exists_eq', List.headD_cons, pd_l0, pd_t0, pd_l1, pd_t1, pd_l2, pd_t2, pd_l3, pd_t3, pd_l4, pd_t4, pd_l5, pd_t5, pd_l6, pd_t6, pd_l7, pd_t7, pd_l8, pd_t8, pd_l9, pd_t9, pd_l10, pd_t10, pd_l11, pd_t11, pd_l12, pd_t12, exists_eq, e1]
      by_cases h8 : ds.length ≤ 5
      · have e2 : decide ((ds.length : Int) ≤ 5) = true := decide_eq_true (by omega)
        simp only [ok_v, ok_k, ok_op, ok_and, ok_or, ok_not, ok_if, ok_chain, ok_call, ok_callK, ok_mkK, ok_fld, ok_met, ok_sl, ok_mv, ok_lc, ok_pop, ok_es0, ok_es, ok_o0, ok_o1, okT_and, okT_or, okT_not, okT_k, okT_op, okT_ite, okT_chain, okT_call, okT_fld, okT_lc, okT_pop, okT_callK, okT_v, okTs0, okTs1, okI_val, okI_rng, okI_rng2, okI_zip, okI_enu, okI_slot, ok_pass, ok_brk, ok_cont, ok_expr, ok_set, ok_par, ok_unp, ok_augA, ok_seti, ok_setf, ok_app, ok_ifS, ok_for, ok_whl, ok_ret, late_k, late_op, late_and_, late_or_, late_not_, late_ite, late_chain, late_call, late_fld, late_met, late_sl, late_lc, late_pop, late_mv, late_callK, late_mkK, late_v, late_nil, get_c0, get_cs, List.set_cons_zero, List.set_cons_succ, stK_n, setKs_nil, setKs_n, Option.bind_some, Option.map_some, Option.some.injEq, exists_eq_left', exists_eq_left, pr_call, pr_fi, List.append_nil, List.cons_append, List.nil_append, List.map_cons, List.map_nil, List.replicate_succ, List.replicate_zero, D.int.injEq, D.bl.injEq, D.lst.injEq, D.str.injEq, D.tup.injEq, pd_addI, pd_sub, pd_eqI, pd_eqB, pd_eqS, pd_neI, pd_neB, pd_neS, pd_ltI, pd_leI, pd_gtI, pd_geI, pd_leS, pd_isN, pd_intI, pd_list, pd_listT, pd_tuple, pd_dct, truth, isNonD, reduceCtorEq, if_true, if_false, reduceIte, Bool.false_eq_true, Bool.not_true, Bool.not_false, List.length_cons, List.length_nil, true_and, and_true, exists_const, exists_eq', List.headD_cons, pd_l0, pd_t0, pd_l1, pd_t1, pd_l2, pd_t2, pd_l3, pd_t3, pd_l4, pd_t4, pd_l5, pd_t5, pd_l6, pd_t6, pd_l7, pd_t7, pd_l8, pd_t8, pd_l9, pd_t9, pd_l10, pd_t10, pd_l11, pd_t11, pd_l12, pd_t12, exists_eq, e2, itD]
        refine lcL_ok (fun xs e acc => ∃ done rest : List D, done ++ rest = ds ∧ xs = rest ∧ acc = (done.map nameB).map .bl ∧ ∃ x, e = [some (.tup ds), x]) ?_ ?_ _ _ _ ?_
        · rintro x xs e acc ⟨done, rest, hd, rfl, rfl, x1, rfl⟩
          refine ⟨rfl, _, rfl, ?_⟩
          have hlen : done.length ≤ 1000000 := by
            have := congrArg List.length hd
            rw [List.length_append] at this
            omega
          simp only [ok_v, ok_k, ok_op, ok_and, ok_or, ok_not, ok_if, ok_chain, ok_call, ok_callK, ok_mkK, ok_fld, ok_met, ok_sl, ok_mv, ok_lc, ok_pop, ok_es0, ok_es, ok_o0, ok_o1, okT_and, okT_or, okT_not, okT_k, okT_op, okT_ite, okT_chain, okT_call, okT_fld, okT_lc, okT_pop, okT_callK, okT_v, okTs0, okTs1, okI_val, okI_rng, okI_rng2, okI_zip, okI_enu, okI_slot, ok_pass, ok_brk, ok_cont, ok_expr, ok_set, ok_par, ok_unp, ok_augA, ok_seti, ok_setf, ok_app, ok_ifS, ok_for, ok_whl, ok_ret, late_k, late_op, late_and_, late_or_, late_not_, late_ite, late_chain, late_call, late_fld, late_met, late_sl, late_lc, late_pop, late_mv, late_callK, late_mkK, late_v, late_nil, get_c0, get_cs, List.set_cons_zero, List.set_cons_succ, stK_n, setKs_nil, setKs_n, Option.bind_some, Option.map_some, Option.some.injEq, exists_eq_left', exists_eq_left, pr_call, pr_fi, List.append_nil, List.cons_append, List.nil_append, List.map_cons, List.map_nil, List.replicate_succ, List.replicate_zero, D.int.injEq, D.bl.injEq, D.lst.injEq, D.str.injEq, D.tup.injEq, pd_addI, pd_sub, pd_eqI, pd_eqB, pd_eqS, pd_neI, pd_neB, pd_neS, pd_ltI, pd_leI, pd_gtI, pd_geI, pd_leS, pd_isN, pd_intI, pd_list, pd_listT, pd_tuple, pd_dct, truth, isNonD, reduceCtorEq, if_true, if_false, reduceIte, Bool.false_eq_true, Bool.not_true, Bool.not_false, List.length_cons, List.length_nil, true_and, and_true, exists_const, exists_eq', List.headD_cons, pd_l0, pd_t0, pd_l1, pd_t1, pd_l2, pd_t2, pd_l3, pd_t3, pd_l4, pd_t4, pd_l5, pd_t5, pd_l6, pd_t6, pd_l7, pd_t7, pd_l8, pd_t8, pd_l9, pd_t9, pd_l10, pd_t10, pd_l11, pd_t11, pd_l12, pd_t12, exists_eq]
          refine (name_ok hn (hp x (by rw [← hd]; simp))).imp ?_
          rintro _ _ ⟨rfl, rfl⟩
          simp only [ok_v, ok_k, ok_op, ok_and, ok_or, ok_not, ok_if, ok_chain, ok_call, ok_callK, ok_mkK, ok_fld, ok_met, ok_sl, ok_mv, ok_lc, ok_pop, ok_es0, ok_es, ok_o0, ok_o1, okT_and, okT_or, okT_not, okT_k, okT_op, okT_ite, okT_chain, okT_call, okT_fld, okT_lc, okT_pop, okT_callK, okT_v, okTs0, okTs1, okI_val, okI_rng, okI_rng2, okI_zip, okI_enu, okI_slot, ok_pass, ok_brk, ok_cont, ok_expr, ok_set, ok_par, ok_unp, ok_augA, ok_seti, ok_setf, ok_app, ok_ifS, ok_for, ok_whl, ok_ret, late_k, late_op, late_and_, late_or_, late_not_, late_ite, late_chain, late_call, late_fld, late_met, late_sl, late_lc, late_pop, late_mv, late_callK, late_mkK, late_v, late_nil, get_c0, get_cs, List.set_cons_zero, List.set_cons_succ, stK_n, setKs_nil, setKs_n, Option.bind_some, Option.map_some, Option.some.injEq, exists_eq_left', exists_eq_left, pr_call, pr_fi, List.append_nil, List.cons_append, List.nil_append, List.map_cons, List.map_nil, List.replicate_succ, List.replicate_zero, D.int.injEq, D.bl.injEq, D.lst.injEq, D.str.injEq, D.tup.injEq, pd_addI, pd_sub, pd_eqI, pd_eqB, pd_eqS, pd_neI, pd_neB, pd_neS, pd_ltI, pd_leI, pd_gtI, pd_geI, pd_leS, pd_isN, pd_intI, pd_list, pd_listT, pd_tuple, pd_dct, truth, isNonD, reduceCtorEq, if_true, if_false, reduceIte, Bool.false_eq_true, Bool.not_true, Bool.not_false, List.length_cons, List.length_nil, true_and, and_true, exists_const, exists_eq', List.headD_cons, pd_l0, pd_t0, pd_l1, pd_t1, pd_l2, pd_t2, pd_l3, pd_t3, pd_l4, pd_t4, pd_l5, pd_t5, pd_l6, pd_t6, pd_l7, pd_t7, pd_l8, pd_t8, pd_l9, pd_t9, pd_l10, pd_t10, pd_l11, pd_t11, pd_l12, pd_t12, exists_eq, List.getElem?_cons_zero, List.getElem?_cons_succ, nx_ret, wipeE, backE, endQ, Fi.io, outsOf, isM, List.headD_cons, List.tail_cons, back, pickE, pick, fiOf_eq hn, fiName]
          refine ⟨small_le (by simpa using hlen), done ++ [x], xs, ?_, rfl, by simp, _, rfl⟩
          rw [← hd, List.append_assoc]; rfl
        · rintro e acc ⟨done, rest, hd, hx, rfl, x1, rfl⟩
          subst hx
          rw [List.append_nil] at hd
          subst hd
          refine ⟨rfl, ?_⟩
          simp only [ok_v, ok_k, ok_op, ok_and, ok_or, ok_not, ok_if, ok_chain, ok_call, ok_callK, ok_mkK, ok_fld, ok_met, ok_sl, ok_mv, ok_lc, ok_pop, ok_es0, ok_es, ok_o0, ok_o1, okT_and, okT_or, okT_not, okT_k, okT_op, okT_ite, okT_chain, okT_call, okT_fld, okT_lc, okT_pop, okT_callK, okT_v, okTs0, okTs1, okI_val, okI_rng, okI_rng2, okI_zip, okI_enu, okI_slot, ok_pass, ok_brk, ok_cont, ok_expr, ok_set, ok_par, ok_unp, ok_augA, ok_seti, ok_setf, ok_app, ok_ifS, ok_for, ok_whl, ok_ret, late_k, late_op, late_and_, late_or_, late_not_, late_ite, late_chain, late_call, late_fld, late_met, late_sl, late_lc, late_pop, late_mv, late_callK, late_mkK, late_v, late_nil, get_c0, get_cs, List.set_cons_zero, List.set_cons_succ, stK_n, setKs_nil, setKs_n, Option.bind_some, Option.map_some, Option.some.injEq, exists_eq_left', exists_eq_left, pr_call, pr_fi, List.append_nil, List.cons_append, List.nil_append, List.map_cons, List.map_nil, List.replicate_succ, List.replicate_zero, D.int.injEq, D.bl.injEq, D.lst.injEq, D.str.injEq, D.tup.injEq, pd_addI, pd_sub, pd_eqI, pd_eqB, pd_eqS, pd_neI, pd_neB, pd_neS, pd_ltI, pd_leI, pd_gtI, pd_geI, pd_leS, pd_isN, pd_intI, pd_list, pd_listT, pd_tuple, pd_dct, truth, isNonD, reduceCtorEq, if_true, if_false, reduceIte, Bool.false_eq_true, Bool.not_true, Bool.not_false, List.length_cons, List.length_nil, true_and, and_true, exists_const, exists_eq', List.headD_cons, pd_l0, pd_t0, pd_l1, pd_t1, pd_l2, pd_t2, pd_l3, pd_t3, pd_l4, pd_t4, pd_l5, pd_t5, pd_l6, pd_t6, pd_l7, pd_t7, pd_l8, pd_t8, pd_l9, pd_t9, pd_l10, pd_t10, pd_l11, pd_t11, pd_l12, pd_t12, exists_eq, List.getElem?_cons_zero, List.getElem?_cons_succ, nx_ret, wipeE, backE, endQ, Fi.io, outsOf, isM, List.headD_cons, List.tail_cons, back, pickE, pick, pd_all, atomB, decide_eq_true h1, decide_eq_true h8, List.all_map]
          rfl
        · exact ⟨[], ds, rfl, rfl, rfl, _, rfl⟩
      · have e2 : decide ((ds.length : Int) ≤ 5) = false := decide_eq_false (by omega)
        simp only [ok_v, ok_k, ok_op, ok_and, ok_or, ok_not, ok_if, ok_chain, ok_call, ok_callK, ok_mkK, ok_fld, ok_met, ok_sl, ok_mv, ok_lc, ok_pop, ok_es0, ok_es, ok_o0, ok_o1, okT_and, okT_or, okT_not, okT_k, okT_op, okT_ite, okT_chain, okT_call, okT_fld, okT_lc, okT_pop, okT_callK, okT_v, okTs0, okTs1, okI_val, okI_rng, okI_rng2, okI_zip, okI_enu, okI_slot, ok_pass, ok_brk, ok_cont, ok_expr, ok_set, ok_par, ok_unp, ok_augA, ok_seti, ok_setf, ok_app, ok_ifS, ok_for, ok_whl, ok_ret, late_k, late_op, late_and_, late_or_, late_not_, late_ite, late_chain, late_call, late_fld, late_met, late_sl, late_lc, late_pop, late_mv, late_callK, late_mkK, late_v, late_nil, get_c0, get_cs, List.set_cons_zero, List.set_cons_succ, stK_n, setKs_nil, setKs_n, Option.bind_some, Option.map_some, Option.some.injEq, exists_eq_left', exists_eq_left, pr_call, pr_fi, List.append_nil, List.cons_append, List.nil_append, List.map_cons, List.map_nil, List.replicate_succ, List.replicate_zero, D.int.injEq, D.bl.injEq, D.lst.injEq, D.str.injEq, D.tup.injEq, pd_addI, pd_sub, pd_eqI, pd_eqB, pd_eqS, pd_neI, pd_neB, pd_neS, pd_ltI, pd_leI, pd_gtI, pd_geI, pd_leS, pd_isN, pd_intI, pd_list, pd_listT, pd_tuple, pd_dct, truth, isNonD, reduceCtorEq, if_true, if_false, reduceIte, Bool.false_eq_true, Bool.not_true, Bool.not_false, List.length_cons, List.length_nil, true_and, and_true, exists_const, exists_eq', List.headD_cons, pd_l0, pd_t0, pd_l1, pd_t1, pd_l2, pd_t2, pd_l3, pd_t3, pd_l4, pd_t4, pd_l5, pd_t5, pd_l6, pd_t6, pd_l7, pd_t7, pd_l8, pd_t8, pd_l9, pd_t9, pd_l10, pd_t10, pd_l11, pd_t11, pd_l12, pd_t12, exists_eq, e2, List.getElem?_cons_zero, List.getElem?_cons_succ, nx_ret, wipeE, backE, endQ, Fi.io, outsOf, isM, List.headD_cons, List.tail_cons, back, pickE, pick, atomB, decide_eq_false h8, Bool.and_false, Bool.false_and]
    · have e1 : decide ((2 : Int) ≤ ds.length) = false := decide_eq_false (by omega)
      simp only [ok_v, ok_k, ok_op, ok_and, ok_or, ok_not, ok_if, ok_chain, ok_call, ok_callK, ok_mkK, ok_fld, ok_met, ok_sl, ok_mv, ok_lc, ok_pop, ok_es0, ok_es, ok_o0, ok_o1, okT_and, okT_or, okT_not, okT_k, okT_op, okT_ite, okT_chain, okT_call, okT_fld, okT_lc, okT_pop, okT_callK, okT_v, okTs0, okTs1, okI_val, okI_rng, okI_rng2, okI_zip, okI_enu, okI_slot, ok_pass, ok_brk, ok_cont, ok_expr, ok_set, ok_par, ok_unp, ok_augA, ok_seti, ok_setf, ok_app, ok_ifS, ok_for, ok_whl, ok_ret, late_k, late_op, late_and_, late_or_, late_not_, late_ite, late_chain, late_call, late_fld, late_met, late_sl, late_lc, late_pop, late_mv, late_callK, late_mkK, late_v, late_nil, get_c0, get_cs, List.set_cons_zero, List.set_cons_succ, stK_n, setKs_nil, setKs_n, Option.bind_some, Option.map_some, Option.some.injEq, exists_eq_left', exists_eq_left, pr_call, pr_fi, List.append_nil, List.cons_append, List.nil_append, List.map_cons, List.map_nil, List.replicate_succ, List.replicate_zero, D.int.injEq, D.bl.injEq, D.lst.injEq, D.str.injEq, D.tup.injEq, pd_addI, pd_sub, pd_eqI, pd_eqB, pd_eqS, pd_neI, pd_neB, pd_neS, pd_ltI, pd_leI, pd_gtI, pd_geI, pd_leS, pd_isN, pd_intI, pd_list, pd_listT, pd_tuple, pd_dct, truth, isNonD, reduceCtorEq, if_true, if_false, reduceIte, Bool.false_eq_true, Bool.not_true, Bool.not_false, List.length_cons, List.length_nil, true_and, and_true, exists_const, exists_eq', List.headD_cons, pd_l0, pd_t0, pd_l1, pd_t1, pd_l2, pd_t2, pd_l3, pd_t3, pd_l4, pd_t4, pd_l5, pd_t5, pd_l6, pd_t6, pd_l7, pd_t7, pd_l8, pd_t8, pd_l9, pd_t9, pd_l10, pd_t10, pd_l11, pd_t11, pd_l12, pd_t12, exists_eq, e1, List.getElem?_cons_zero, List.getElem?_cons_succ, nx_ret, wipeE, backE, endQ, Fi.io, outsOf, isM, List.headD_cons, List.tail_cons, back, pickE, pick, atomB, decide_eq_false h1, Bool.and_false, Bool.false_and]
  | _ => simp only [isC, ok_v, ok_k, ok_op, ok_and, ok_or, ok_not, ok_if, ok_chain, ok_call, ok_callK, ok_mkK, ok_fld, ok_met, ok_sl, ok_mv, ok_lc, ok_pop, ok_es0, ok_es, ok_o0, ok_o1, okT_and, okT_or, okT_not, okT_k, okT_op, okT_ite, okT_chain, okT_call, okT_fld, okT_lc, okT_pop, okT_callK, okT_v, okTs0, okTs1, okI_val, okI_rng, okI_rng2, okI_zip, okI_enu, okI_slot, ok_pass, ok_brk, ok_cont, ok_expr, ok_set, ok_par, ok_unp, ok_augA, ok_seti, ok_setf, ok_app, ok_ifS, ok_for, ok_whl, ok_ret, late_k, late_op, late_and_, late_or_, late_not_, late_ite, late_chain, late_call, late_fld, late_met, late_sl, late_lc, late_pop, late_mv, late_callK, late_mkK, late_v, late_nil, get_c0, get_cs, List.set_cons_zero, List.set_cons_succ, stK_n, setKs_nil, setKs_n, Option.bind_some, Option.map_some, Option.some.injEq, exists_eq_left', exists_eq_left, pr_call, pr_fi, List.append_nil, List.cons_append, List.nil_append, List.map_cons, List.map_nil, List.replicate_succ, List.replicate_zero, D.int.injEq, D.bl.injEq, D.lst.injEq, D.str.injEq, D.tup.injEq, pd_addI, pd_sub, pd_eqI, pd_eqB, pd_eqS, pd_neI, pd_neB, pd_neS, pd_ltI, pd_leI, pd_gtI, pd_geI, pd_leS, pd_isN, pd_intI, pd_list, pd_listT, pd_tuple, pd_dct, truth, isNonD, reduceCtorEq, if_true, if_false, reduceIte, Bool.false_eq_true, Bool.not_true, Bool.not_false, List.length_cons, List.length_nil, true_and, and_true, exists_const, exists_eq', List.headD_cons, pd_l0, pd_t0, pd_l1, pd_t1, pd_l2, pd_t2, pd_l3, pd_t3, pd_l4, pd_t4, pd_l5, pd_t5, pd_l6, pd_t6, pd_l7, pd_t7, pd_l8, pd_t8, pd_l9, pd_t9, pd_l10, pd_t10, pd_l11, pd_t11, pd_l12, pd_t12, exists_eq, List.getElem?_cons_zero, List.getElem?_cons_succ, nx_ret, wipeE, backE, endQ, Fi.io, outsOf, isM, List.headD_cons, List.tail_cons, back, pickE, pick, atomB]
end
end TE
/-! Tp5: drawn names. -/
namespace TE
open PySem L2
theorem sh_eq {pg : Pg} {c : Nat → List D → C} {s : Nat} {h : Sh} (hs : pg.sh[s]? = some h) : (pg.prOf c).sh s = h := by
  show pg.sh.getD s ⟨0, 0, [], []⟩ = h
  rw [List.getD_eq_getElem?_getD, hs]; rfl
theorem join_ok {sep : List Nat} {ys : List (List Nat)} (h : (ys.map (·.length)).sum + ys.length * sep.length ≤ 1000000) : pMt .join (.str sep) [.lst (ys.map .str)] = some (.str (joinT sep ys)) := by
  have : allStr (ys.map D.str) = some ys := by
    clear h
    induction ys with
    | nil => rfl
    | cons b bs ih => simp [allStr, ih]
  show (allStr (ys.map D.str)).bind _ = _
  rw [this]
  show (if small ((ys.map (·.length)).sum + ys.length * sep.length) then some (D.str (joinT sep ys)) else none) = _
  rw [if_pos (small_le h)]
theorem join_one : ∀ (cs : List Nat), joinT [] (cs.map fun c => [c]) = cs
  | [] => rfl
  | [c] => rfl
  | c :: d :: r => by
    have := join_one (d :: r)
    simp only [List.map_cons] at this ⊢
    simp only [joinT, List.append_nil, List.cons_append, List.nil_append]
    rw [this]
theorem ones_sum {α : Type} : ∀ cs : List α, ((cs.map fun c => [c]).map (·.length)).sum = cs.length
  | [] => rfl
  | c :: r => by
    have := ones_sum r
    simp only [List.map_cons, List.sum_cons, List.length_cons, List.length_nil, this]
    omega
theorem letters_letr : ∀ c ∈ letters, letr c = true := by decide
/-- all letters -/
def Wd (s : List Nat) : Prop := ∀ c ∈ s, letr c = true
theorem Wd.app {a b : List Nat} (h : Wd a) (k : Wd b) : Wd (a ++ b) := fun c hc => (List.mem_append.mp hc).elim (h c) (k c)
theorem cut_hi {α : Type} (xs : List α) {i : Int} (h0 : 0 ≤ i) : cut xs none (some i) = xs.take i.toNat := by
  unfold cut
  simp only [slOf]
  rw [if_pos h0]
  simp only [List.drop_zero, Nat.sub_zero]
  by_cases h : i.toNat ≤ xs.length
  · rw [Nat.min_eq_left h]
  · rw [Nat.min_eq_right (by omega), List.take_of_length_le (by omega), List.take_of_length_le (by omega)]
theorem cut_lo {α : Type} (xs : List α) {i : Int} (h0 : 0 ≤ i) : cut xs (some i) none = xs.drop i.toNat := by
  unfold cut
  simp only [slOf]
  rw [if_pos h0]
  by_cases h : i.toNat ≤ xs.length
  · rw [Nat.min_eq_left h, List.take_of_length_le (by rw [List.length_drop]; omega)]
  · rw [Nat.min_eq_right (by omega), List.drop_of_length_le (Nat.le_refl _), List.drop_of_length_le (by omega)]
    simp
theorem psl_str {s : List Nat} {l h : Option Int} (hs : s.length ≤ 1000000) : pSl (.str s) l h = some (.str (cut s l h)) := by
  show (if small s.length then some (D.str (cut s l h)) else none) = _
  rw [if_pos (small_le hs)]
theorem psl_lst {s : List D} {l h : Option Int} : pSl (.lst s) l h = some (.lst (cut s l h)) := rfl
def dfNames (pull any letK mixed : Nat) : Df := ⟨⟨[.m, .n], true⟩, [.n, .n, .n, .n, .n], [(.set 2 false (.met .join (.k (.str [])) [(.lc [6] (.nm 6) (.rng (.call pull [(.v 0), (.k (.int 6))] [])) [] (.call any [(.v 0), (.callK letK [])] []))])), (.par [(3, false), (4, false)] [(.call pull [(.v 0), (.op .add [(.op (.bf .len) [(.v 2)]), (.k (.int 1))])] []), (.sl (.call mixed [(.v 0), (.callK letK [])] []) [] [(.v 1)])]), (.ret (.lc [5] (.nm 5) (.val (.v 4)) [] (.op .add [(.op .add [(.sl (.v 2) [] [(.v 3)]), (.v 5)]), (.ite (.op .eq [(.call pull [(.v 0), (.k (.int 2))] []), (.k (.int 0))]) (.sl (.v 2) [(.v 3)] []) (.k (.str [])))])))]⟩
theorem fiNames {a b c d : Nat} : (dfNames a b c d).fi = ⟨[.m, .n], true⟩ := rfl
theorem fiLetters : dfLetters.fi = ⟨[], true⟩ := rfl
theorem fiMixed {j : Nat} : (dfMixed j).fi = ⟨[.m, .n], true⟩ := rfl
section
variable {pg : Pg} {KK n i pull any letK lt mixed : Nat}
theorem names_ok {t : D} {k m : Nat} (h : pg.defs[i]? = some (dfNames pull any letK mixed)) (hp : pg.defs[pull]? = some dfPull) (ha : pg.defs[any]? = some (dfAny pull)) (hm : pg.defs[mixed]? = some (dfMixed pull)) (hl : pg.defs[lt]? = some dfLetters) (hs : pg.sh[letK]? = some ⟨lt, 0, [], []⟩) (hb : Bag k t) (hk : 100 ≤ k) (hm1 : m ≤ 26) :
    (pg.callN KK (n + 3) i [t, .int m]).Ok fun d o => ∃ (ys : List (List Nat)) (t' : D), d = .lst (ys.map .str) ∧ ys.length = m ∧ (∀ y ∈ ys, Wd y ∧ 1 ≤ y.length ∧ y.length ≤ 6) ∧ o = [some t', none] ∧ Bag (k - 100) t' := by
  refine callN_ok h rfl ?_
  refine st_go ?_
  simp only [ok_v, ok_k, ok_op, ok_and, ok_or, ok_not, ok_if, ok_chain, ok_call, ok_callK, ok_mkK, ok_fld, ok_met, ok_sl, ok_mv, ok_lc, ok_pop, ok_es0, ok_es, ok_o0, ok_o1, okT_and, okT_or, okT_not, okT_k, okT_op, okT_ite, okT_chain, okT_call, okT_fld, okT_lc, okT_pop, okT_callK, okT_v, okTs0, okTs1, okI_val, okI_rng, okI_rng2, okI_zip, okI_enu, okI_slot, ok_pass, ok_brk, ok_cont, ok_expr, ok_set, ok_par, ok_unp, ok_augA, ok_seti, ok_setf, ok_app, ok_ifS, ok_for, ok_whl, ok_ret, late_k, late_op, late_and_, late_or_, late_not_, late_ite, late_chain, late_call, late_fld, late_met, late_sl, late_lc, late_pop, late_mv, late_callK, late_mkK, late_v, late_nil, get_c0, get_cs, List.set_cons_zero, List.set_cons_succ, stK_n, setKs_nil, setKs_n, Option.bind_some, Option.map_some, Option.some.injEq, exists_eq_left', exists_eq_left, pr_call, pr_fi, List.append_nil, List.cons_append, List.nil_append, List.map_cons, List.map_nil, List.replicate_succ, List.replicate_zero, D.int.injEq, D.bl.injEq, D.lst.injEq, D.str.injEq, D.tup.injEq, pd_addI, pd_sub, pd_eqI, pd_eqB, pd_eqS, pd_neI, pd_neB, pd_neS, pd_ltI, pd_leI, pd_gtI, pd_geI, pd_leS, pd_isN, pd_intI, pd_list, pd_listT, pd_tuple, pd_dct, truth, isNonD, reduceCtorEq, if_true, if_false, reduceIte, Bool.false_eq_true, Bool.not_true, Bool.not_false, List.length_cons, List.length_nil, true_and, and_true, exists_const, exists_eq', List.headD_cons, pd_l0, pd_t0, pd_l1, pd_t1, pd_l2, pd_t2, pd_l3, pd_t3, pd_l4, pd_t4, pd_l5, pd_t5, pd_l6, pd_t6, pd_l7, pd_t7, pd_l8, pd_t8, pd_l9, pd_t9, pd_l10, pd_t10, pd_l11, pd_t11, pd_l12, pd_t12, exists_eq, dfNames]
  refine (pull_ok hp hb (by omega) (by decide) (by decide +kernel)).imp ?_
  rintro _ _ ⟨r, t1, rfl, rfl, r0, r1, hb1⟩
  simp only [ok_v, ok_k, ok_op, ok_and, ok_or, ok_not, ok_if, ok_chain, ok_call, ok_callK, ok_mkK, ok_fld, ok_met, ok_sl, ok_mv, ok_lc, ok_pop, ok_es0, ok_es, ok_o0, ok_o1, okT_and, okT_or, okT_not, okT_k, okT_op, okT_ite, okT_chain, okT_call, okT_fld, okT_lc, okT_pop, okT_callK, okT_v, okTs0, okTs1, okI_val, okI_rng, okI_rng2, okI_zip, okI_enu, okI_slot, ok_pass, ok_brk, ok_cont, ok_expr, ok_set, ok_par, ok_unp, ok_augA, ok_seti, ok_setf, ok_app, ok_ifS, ok_for, ok_whl, ok_ret, late_k, late_op, late_and_, late_or_, late_not_, late_ite, late_chain, late_call, late_fld, late_met, late_sl, late_lc, late_pop, late_mv, late_callK, late_mkK, late_v, late_nil, get_c0, get_cs, List.set_cons_zero, List.set_cons_succ, stK_n, setKs_nil, setKs_n, Option.bind_some, Option.map_some, Option.some.injEq, exists_eq_left', exists_eq_left, pr_call, pr_fi, List.append_nil, List.cons_append, List.nil_append, List.map_cons, List.map_nil, List.replicate_succ, List.replicate_zero, D.int.injEq, D.bl.injEq, D.lst.injEq, D.str.injEq, D.tup.injEq, pd_addI, pd_sub, pd_eqI, pd_eqB, pd_eqS, pd_neI, pd_neB, pd_neS, pd_ltI, pd_leI, pd_gtI, pd_geI, pd_leS, pd_isN, pd_intI, pd_list, pd_listT, pd_tuple, pd_dct, truth, isNonD, reduceCtorEq, if_true, if_false, reduceIte, Bool.false_eq_true, Bool.not_true, Bool.not_false, List.length_cons, List.length_nil, true_and, and_true, exists_const, exists_eq', List.headD_cons, pd_l0, pd_t0, pd_l1, pd_t1, pd_l2, pd_t2, pd_l3, pd_t3, pd_l4, pd_t4, pd_l5, pd_t5, pd_l6, pd_t6, pd_l7, pd_t7, pd_l8, pd_t8, pd_l9, pd_t9, pd_l10, pd_t10, pd_l11, pd_t11, pd_l12, pd_t12, exists_eq, List.getElem?_cons_zero, List.getElem?_cons_succ, nx_ret, wipeE, backE, endQ, Fi.io, outsOf, isM, List.headD_cons, List.tail_cons, back, pickE, pick, fiOf_eq hp, fiPull, rngOk r0 (Int.le_trans (Int.le_of_lt r1) (by decide))]
  refine lcL_ok (fun xs e acc => ∃ cs t' x, e = [some t', some (.int m), none, none, none, none, x] ∧ Wd cs ∧ acc = (cs.map fun c => [c]).map .str ∧ cs.length + xs.length = r.toNat ∧ Bag (k - 1 - cs.length) t') ?_ ?_ _ _ _ ?_
  · rintro x xs e acc ⟨cs, t2, x6, rfl, hw, rfl, hlen, hb2⟩
    refine ⟨rfl, _, rfl, ?_⟩
    rw [List.length_cons] at hlen
    simp only [ok_v, ok_k, ok_op, ok_and, ok_or, ok_not, ok_if, ok_chain, ok_call, ok_callK, ok_mkK, ok_fld, ok_met, ok_sl, ok_mv, ok_lc, ok_pop, ok_es0, ok_es, ok_o0, ok_o1, okT_and, okT_or, okT_not, okT_k, okT_op, okT_ite, okT_chain, okT_call, okT_fld, okT_lc, okT_pop, okT_callK, okT_v, okTs0, okTs1, okI_val, okI_rng, okI_rng2, okI_zip, okI_enu, okI_slot, ok_pass, ok_brk, ok_cont, ok_expr, ok_set, ok_par, ok_unp, ok_augA, ok_seti, ok_setf, ok_app, ok_ifS, ok_for, ok_whl, ok_ret, late_k, late_op, late_and_, late_or_, late_not_, late_ite, late_chain, late_call, late_fld, late_met, late_sl, late_lc, late_pop, late_mv, late_callK, late_mkK, late_v, late_nil, get_c0, get_cs, List.set_cons_zero, List.set_cons_succ, stK_n, setKs_nil, setKs_n, Option.bind_some, Option.map_some, Option.some.injEq, exists_eq_left', exists_eq_left, pr_call, pr_fi, List.append_nil, List.cons_append, List.nil_append, List.map_cons, List.map_nil, List.replicate_succ, List.replicate_zero, D.int.injEq, D.bl.injEq, D.lst.injEq, D.str.injEq, D.tup.injEq, pd_addI, pd_sub, pd_eqI, pd_eqB, pd_eqS, pd_neI, pd_neB, pd_neS, pd_ltI, pd_leI, pd_gtI, pd_geI, pd_leS, pd_isN, pd_intI, pd_list, pd_listT, pd_tuple, pd_dct, truth, isNonD, reduceCtorEq, if_true, if_false, reduceIte, Bool.false_eq_true, Bool.not_true, Bool.not_false, List.length_cons, List.length_nil, true_and, and_true, exists_const, exists_eq', List.headD_cons, pd_l0, pd_t0, pd_l1, pd_t1, pd_l2, pd_t2, pd_l3, pd_t3, pd_l4, pd_t4, pd_l5, pd_t5, pd_l6, pd_t6, pd_l7, pd_t7, pd_l8, pd_t8, pd_l9, pd_t9, pd_l10, pd_t10, pd_l11, pd_t11, pd_l12, pd_t12, exists_eq, List.getElem?_cons_zero, List.getElem?_cons_succ, nx_ret, wipeE, backE, endQ, Fi.io, outsOf, isM, List.headD_cons, List.tail_cons, back, pickE, pick, sh_eq hs]
    refine (letters_ok hl).imp ?_
    rintro _ _ ⟨rfl, rfl⟩
    simp only [ok_v, ok_k, ok_op, ok_and, ok_or, ok_not, ok_if, ok_chain, ok_call, ok_callK, ok_mkK, ok_fld, ok_met, ok_sl, ok_mv, ok_lc, ok_pop, ok_es0, ok_es, ok_o0, ok_o1, okT_and, okT_or, okT_not, okT_k, okT_op, okT_ite, okT_chain, okT_call, okT_fld, okT_lc, okT_pop, okT_callK, okT_v, okTs0, okTs1, okI_val, okI_rng, okI_rng2, okI_zip, okI_enu, okI_slot, ok_pass, ok_brk, ok_cont, ok_expr, ok_set, ok_par, ok_unp, ok_augA, ok_seti, ok_setf, ok_app, ok_ifS, ok_for, ok_whl, ok_ret, late_k, late_op, late_and_, late_or_, late_not_, late_ite, late_chain, late_call, late_fld, late_met, late_sl, late_lc, late_pop, late_mv, late_callK, late_mkK, late_v, late_nil, get_c0, get_cs, List.set_cons_zero, List.set_cons_succ, stK_n, setKs_nil, setKs_n, Option.bind_some, Option.map_some, Option.some.injEq, exists_eq_left', exists_eq_left, pr_call, pr_fi, List.append_nil, List.cons_append, List.nil_append, List.map_cons, List.map_nil, List.replicate_succ, List.replicate_zero, D.int.injEq, D.bl.injEq, D.lst.injEq, D.str.injEq, D.tup.injEq, pd_addI, pd_sub, pd_eqI, pd_eqB, pd_eqS, pd_neI, pd_neB, pd_neS, pd_ltI, pd_leI, pd_gtI, pd_geI, pd_leS, pd_isN, pd_intI, pd_list, pd_listT, pd_tuple, pd_dct, truth, isNonD, reduceCtorEq, if_true, if_false, reduceIte, Bool.false_eq_true, Bool.not_true, Bool.not_false, List.length_cons, List.length_nil, true_and, and_true, exists_const, exists_eq', List.headD_cons, pd_l0, pd_t0, pd_l1, pd_t1, pd_l2, pd_t2, pd_l3, pd_t3, pd_l4, pd_t4, pd_l5, pd_t5, pd_l6, pd_t6, pd_l7, pd_t7, pd_l8, pd_t8, pd_l9, pd_t9, pd_l10, pd_t10, pd_l11, pd_t11, pd_l12, pd_t12, exists_eq, List.getElem?_cons_zero, List.getElem?_cons_succ, nx_ret, wipeE, backE, endQ, Fi.io, outsOf, isM, List.headD_cons, List.tail_cons, back, pickE, pick, fiOf_eq hl, fiLetters]
    refine (any_ok ha hp hb2 (by omega) (by simp [letters]) (by simp [letters])).imp ?_
    rintro _ _ ⟨hd, t3, rfl, hb3⟩
    obtain ⟨c, hc, rfl⟩ := List.mem_map.mp hd
    simp only [ok_v, ok_k, ok_op, ok_and, ok_or, ok_not, ok_if, ok_chain, ok_call, ok_callK, ok_mkK, ok_fld, ok_met, ok_sl, ok_mv, ok_lc, ok_pop, ok_es0, ok_es, ok_o0, ok_o1, okT_and, okT_or, okT_not, okT_k, okT_op, okT_ite, okT_chain, okT_call, okT_fld, okT_lc, okT_pop, okT_callK, okT_v, okTs0, okTs1, okI_val, okI_rng, okI_rng2, okI_zip, okI_enu, okI_slot, ok_pass, ok_brk, ok_cont, ok_expr, ok_set, ok_par, ok_unp, ok_augA, ok_seti, ok_setf, ok_app, ok_ifS, ok_for, ok_whl, ok_ret, late_k, late_op, late_and_, late_or_, late_not_, late_ite, late_chain, late_call, late_fld, late_met, late_sl, late_lc, late_pop, late_mv, late_callK, late_mkK, late_v, late_nil, get_c0, get_cs, List.set_cons_zero, List.set_cons_succ, stK_n, setKs_nil, setKs_n, Option.bind_some, Option.map_some, Option.some.injEq, exists_eq_left', exists_eq_left, pr_call, pr_fi, List.append_nil, List.cons_append, List.nil_append, List.map_cons, List.map_nil, List.replicate_succ, List.replicate_zero, D.int.injEq, D.bl.injEq, D.lst.injEq, D.str.injEq, D.tup.injEq, pd_addI, pd_sub, pd_eqI, pd_eqB, pd_eqS, pd_neI, pd_neB, pd_neS, pd_ltI, pd_leI, pd_gtI, pd_geI, pd_leS, pd_isN, pd_intI, pd_list, pd_listT, pd_tuple, pd_dct, truth, isNonD, reduceCtorEq, if_true, if_false, reduceIte, Bool.false_eq_true, Bool.not_true, Bool.not_false, List.length_cons, List.length_nil, true_and, and_true, exists_const, exists_eq', List.headD_cons, pd_l0, pd_t0, pd_l1, pd_t1, pd_l2, pd_t2, pd_l3, pd_t3, pd_l4, pd_t4, pd_l5, pd_t5, pd_l6, pd_t6, pd_l7, pd_t7, pd_l8, pd_t8, pd_l9, pd_t9, pd_l10, pd_t10, pd_l11, pd_t11, pd_l12, pd_t12, exists_eq, List.getElem?_cons_zero, List.getElem?_cons_succ, nx_ret, wipeE, backE, endQ, Fi.io, outsOf, isM, List.headD_cons, List.tail_cons, back, pickE, pick, fiOf_eq ha, fiAny]
    refine ⟨small_le (by simp; omega), cs ++ [c], t3, _, rfl, hw.app (fun z hz => by simp at hz; rw [hz]; exact letters_letr _ hc), by simp, by simp; omega, hb3.mono (by simp; omega)⟩
  rotate_left
  · exact ⟨[], t1, _, rfl, (fun _ h => nomatch h), rfl, by simp, hb1⟩
  rintro e acc ⟨cs, t2, x6, rfl, hw, rfl, hlen, hb2⟩
  refine ⟨rfl, ?_⟩
  have hlen : cs.length = r.toNat := by simpa using hlen
  simp only [ok_v, ok_k, ok_op, ok_and, ok_or, ok_not, ok_if, ok_chain, ok_call, ok_callK, ok_mkK, ok_fld, ok_met, ok_sl, ok_mv, ok_lc, ok_pop, ok_es0, ok_es, ok_o0, ok_o1, okT_and, okT_or, okT_not, okT_k, okT_op, okT_ite, okT_chain, okT_call, okT_fld, okT_lc, okT_pop, okT_callK, okT_v, okTs0, okTs1, okI_val, okI_rng, okI_rng2, okI_zip, okI_enu, okI_slot, ok_pass, ok_brk, ok_cont, ok_expr, ok_set, ok_par, ok_unp, ok_augA, ok_seti, ok_setf, ok_app, ok_ifS, ok_for, ok_whl, ok_ret, late_k, late_op, late_and_, late_or_, late_not_, late_ite, late_chain, late_call, late_fld, late_met, late_sl, late_lc, late_pop, late_mv, late_callK, late_mkK, late_v, late_nil, get_c0, get_cs, List.set_cons_zero, List.set_cons_succ, stK_n, setKs_nil, setKs_n, Option.bind_some, Option.map_some, Option.some.injEq, exists_eq_left', exists_eq_left, pr_call, pr_fi, List.append_nil, List.cons_append, List.nil_append, List.map_cons, List.map_nil, List.replicate_succ, List.replicate_zero, D.int.injEq, D.bl.injEq, D.lst.injEq, D.str.injEq, D.tup.injEq, pd_addI, pd_sub, pd_eqI, pd_eqB, pd_eqS, pd_neI, pd_neB, pd_neS, pd_ltI, pd_leI, pd_gtI, pd_geI, pd_leS, pd_isN, pd_intI, pd_list, pd_listT, pd_tuple, pd_dct, truth, isNonD, reduceCtorEq, if_true, if_false, reduceIte, Bool.false_eq_true, Bool.not_true, Bool.not_false, List.length_cons, List.length_nil, true_and, and_true, exists_const, exists_eq', List.headD_cons, pd_l0, pd_t0, pd_l1, pd_t1, pd_l2, pd_t2, pd_l3, pd_t3, pd_l4, pd_t4, pd_l5, pd_t5, pd_l6, pd_t6, pd_l7, pd_t7, pd_l8, pd_t8, pd_l9, pd_t9, pd_l10, pd_t10, pd_l11, pd_t11, pd_l12, pd_t12, exists_eq, List.getElem?_cons_zero, List.getElem?_cons_succ, nx_ret, wipeE, backE, endQ, Fi.io, outsOf, isM, List.headD_cons, List.tail_cons, back, pickE, pick]
  refine ⟨_, join_ok (by rw [ones_sum]; simp; omega), ?_⟩
  rw [join_one]
  refine st_nx ?_
  have hcs : cs.length ≤ 5 := by omega
  simp only [ok_v, ok_k, ok_op, ok_and, ok_or, ok_not, ok_if, ok_chain, ok_call, ok_callK, ok_mkK, ok_fld, ok_met, ok_sl, ok_mv, ok_lc, ok_pop, ok_es0, ok_es, ok_o0, ok_o1, okT_and, okT_or, okT_not, okT_k, okT_op, okT_ite, okT_chain, okT_call, okT_fld, okT_lc, okT_pop, okT_callK, okT_v, okTs0, okTs1, okI_val, okI_rng, okI_rng2, okI_zip, okI_enu, okI_slot, ok_pass, ok_brk, ok_cont, ok_expr, ok_set, ok_par, ok_unp, ok_augA, ok_seti, ok_setf, ok_app, ok_ifS, ok_for, ok_whl, ok_ret, late_k, late_op, late_and_, late_or_, late_not_, late_ite, late_chain, late_call, late_fld, late_met, late_sl, late_lc, late_pop, late_mv, late_callK, late_mkK, late_v, late_nil, get_c0, get_cs, List.set_cons_zero, List.set_cons_succ, stK_n, setKs_nil, setKs_n, Option.bind_some, Option.map_some, Option.some.injEq, exists_eq_left', exists_eq_left, pr_call, pr_fi, List.append_nil, List.cons_append, List.nil_append, List.map_cons, List.map_nil, List.replicate_succ, List.replicate_zero, D.int.injEq, D.bl.injEq, D.lst.injEq, D.str.injEq, D.tup.injEq, pd_addI, pd_sub, pd_eqI, pd_eqB, pd_eqS, pd_neI, pd_neB, pd_neS, pd_ltI, pd_leI, pd_gtI, pd_geI, pd_leS, pd_isN, pd_intI, pd_list, pd_listT, pd_tuple, pd_dct, truth, isNonD, reduceCtorEq, if_true, if_false, reduceIte, Bool.false_eq_true, Bool.not_true, Bool.not_false, List.length_cons, List.length_nil, true_and, and_true, exists_const, exists_eq', List.headD_cons, pd_l0, pd_t0, pd_l1, pd_t1, pd_l2, pd_t2, pd_l3, pd_t3, pd_l4, pd_t4, pd_l5, pd_t5, pd_l6, pd_t6, pd_l7, pd_t7, pd_l8, pd_t8, pd_l9, pd_t9, pd_l10, pd_t10, pd_l11, pd_t11, pd_l12, pd_t12, exists_eq, List.getElem?_cons_zero, List.getElem?_cons_succ, nx_ret, wipeE, backE, endQ, Fi.io, outsOf, isM, List.headD_cons, List.tail_cons, back, pickE, pick, pd_lenS (small_le (show cs.length ≤ 1000000 by omega))]
  refine (pull_ok hp hb2 (by omega) (by omega) (Int.lt_of_le_of_lt (b := 10) (by omega) (by decide +kernel))).imp ?_
  rintro _ _ ⟨a, t3, rfl, rfl, a0, a1, hb3⟩
  simp only [ok_v, ok_k, ok_op, ok_and, ok_or, ok_not, ok_if, ok_chain, ok_call, ok_callK, ok_mkK, ok_fld, ok_met, ok_sl, ok_mv, ok_lc, ok_pop, ok_es0, ok_es, ok_o0, ok_o1, okT_and, okT_or, okT_not, okT_k, okT_op, okT_ite, okT_chain, okT_call, okT_fld, okT_lc, okT_pop, okT_callK, okT_v, okTs0, okTs1, okI_val, okI_rng, okI_rng2, okI_zip, okI_enu, okI_slot, ok_pass, ok_brk, ok_cont, ok_expr, ok_set, ok_par, ok_unp, ok_augA, ok_seti, ok_setf, ok_app, ok_ifS, ok_for, ok_whl, ok_ret, late_k, late_op, late_and_, late_or_, late_not_, late_ite, late_chain, late_call, late_fld, late_met, late_sl, late_lc, late_pop, late_mv, late_callK, late_mkK, late_v, late_nil, get_c0, get_cs, List.set_cons_zero, List.set_cons_succ, stK_n, setKs_nil, setKs_n, Option.bind_some, Option.map_some, Option.some.injEq, exists_eq_left', exists_eq_left, pr_call, pr_fi, List.append_nil, List.cons_append, List.nil_append, List.map_cons, List.map_nil, List.replicate_succ, List.replicate_zero, D.int.injEq, D.bl.injEq, D.lst.injEq, D.str.injEq, D.tup.injEq, pd_addI, pd_sub, pd_eqI, pd_eqB, pd_eqS, pd_neI, pd_neB, pd_neS, pd_ltI, pd_leI, pd_gtI, pd_geI, pd_leS, pd_isN, pd_intI, pd_list, pd_listT, pd_tuple, pd_dct, truth, isNonD, reduceCtorEq, if_true, if_false, reduceIte, Bool.false_eq_true, Bool.not_true, Bool.not_false, List.length_cons, List.length_nil, true_and, and_true, exists_const, exists_eq', List.headD_cons, pd_l0, pd_t0, pd_l1, pd_t1, pd_l2, pd_t2, pd_l3, pd_t3, pd_l4, pd_t4, pd_l5, pd_t5, pd_l6, pd_t6, pd_l7, pd_t7, pd_l8, pd_t8, pd_l9, pd_t9, pd_l10, pd_t10, pd_l11, pd_t11, pd_l12, pd_t12, exists_eq, List.getElem?_cons_zero, List.getElem?_cons_succ, nx_ret, wipeE, backE, endQ, Fi.io, outsOf, isM, List.headD_cons, List.tail_cons, back, pickE, pick, fiOf_eq hp, fiPull, sh_eq hs]
  refine (letters_ok hl).imp ?_
  rintro _ _ ⟨rfl, rfl⟩
  simp only [ok_v, ok_k, ok_op, ok_and, ok_or, ok_not, ok_if, ok_chain, ok_call, ok_callK, ok_mkK, ok_fld, ok_met, ok_sl, ok_mv, ok_lc, ok_pop, ok_es0, ok_es, ok_o0, ok_o1, okT_and, okT_or, okT_not, okT_k, okT_op, okT_ite, okT_chain, okT_call, okT_fld, okT_lc, okT_pop, okT_callK, okT_v, okTs0, okTs1, okI_val, okI_rng, okI_rng2, okI_zip, okI_enu, okI_slot, ok_pass, ok_brk, ok_cont, ok_expr, ok_set, ok_par, ok_unp, ok_augA, ok_seti, ok_setf, ok_app, ok_ifS, ok_for, ok_whl, ok_ret, late_k, late_op, late_and_, late_or_, late_not_, late_ite, late_chain, late_call, late_fld, late_met, late_sl, late_lc, late_pop, late_mv, late_callK, late_mkK, late_v, late_nil, get_c0, get_cs, List.set_cons_zero, List.set_cons_succ, stK_n, setKs_nil, setKs_n, Option.bind_some, Option.map_some, Option.some.injEq, exists_eq_left', exists_eq_left, pr_call, pr_fi, List.append_nil, List.cons_append, List.nil_append, List.map_cons, List.map_nil, List.replicate_succ, List.replicate_zero, D.int.injEq, D.bl.injEq, D.lst.injEq, D.str.injEq, D.tup.injEq, pd_addI, pd_sub, pd_eqI, pd_eqB, pd_eqS, pd_neI, pd_neB, pd_neS, pd_ltI, pd_leI, pd_gtI, pd_geI, pd_leS, pd_isN, pd_intI, pd_list, pd_listT, pd_tuple, pd_dct, truth, isNonD, reduceCtorEq, if_true, if_false, reduceIte, Bool.false_eq_true, Bool.not_true, Bool.not_false, List.length_cons, List.length_nil, true_and, and_true, exists_const, exists_eq', List.headD_cons, pd_l0, pd_t0, pd_l1, pd_t1, pd_l2, pd_t2, pd_l3, pd_t3, pd_l4, pd_t4, pd_l5, pd_t5, pd_l6, pd_t6, pd_l7, pd_t7, pd_l8, pd_t8, pd_l9, pd_t9, pd_l10, pd_t10, pd_l11, pd_t11, pd_l12, pd_t12, exists_eq, List.getElem?_cons_zero, List.getElem?_cons_succ, nx_ret, wipeE, backE, endQ, Fi.io, outsOf, isM, List.headD_cons, List.tail_cons, back, pickE, pick, fiOf_eq hl, fiLetters]
  refine (mixed_ok hm hp hb3 (by simp [letters]; omega) (by simp [letters])).imp ?_
  rintro _ _ ⟨es, t4, rfl, hperm, rfl, hb4⟩
  have hel : es.length = 26 := by rw [hperm.length_eq]; rfl
  simp only [ok_v, ok_k, ok_op, ok_and, ok_or, ok_not, ok_if, ok_chain, ok_call, ok_callK, ok_mkK, ok_fld, ok_met, ok_sl, ok_mv, ok_lc, ok_pop, ok_es0, ok_es, ok_o0, ok_o1, okT_and, okT_or, okT_not, okT_k, okT_op, okT_ite, okT_chain, okT_call, okT_fld, okT_lc, okT_pop, okT_callK, okT_v, okTs0, okTs1, okI_val, okI_rng, okI_rng2, okI_zip, okI_enu, okI_slot, ok_pass, ok_brk, ok_cont, ok_expr, ok_set, ok_par, ok_unp, ok_augA, ok_seti, ok_setf, ok_app, ok_ifS, ok_for, ok_whl, ok_ret, late_k, late_op, late_and_, late_or_, late_not_, late_ite, late_chain, late_call, late_fld, late_met, late_sl, late_lc, late_pop, late_mv, late_callK, late_mkK, late_v, late_nil, get_c0, get_cs, List.set_cons_zero, List.set_cons_succ, stK_n, setKs_nil, setKs_n, Option.bind_some, Option.map_some, Option.some.injEq, exists_eq_left', exists_eq_left, pr_call, pr_fi, List.append_nil, List.cons_append, List.nil_append, List.map_cons, List.map_nil, List.replicate_succ, List.replicate_zero, D.int.injEq, D.bl.injEq, D.lst.injEq, D.str.injEq, D.tup.injEq, pd_addI, pd_sub, pd_eqI, pd_eqB, pd_eqS, pd_neI, pd_neB, pd_neS, pd_ltI, pd_leI, pd_gtI, pd_geI, pd_leS, pd_isN, pd_intI, pd_list, pd_listT, pd_tuple, pd_dct, truth, isNonD, reduceCtorEq, if_true, if_false, reduceIte, Bool.false_eq_true, Bool.not_true, Bool.not_false, List.length_cons, List.length_nil, true_and, and_true, exists_const, exists_eq', List.headD_cons, pd_l0, pd_t0, pd_l1, pd_t1, pd_l2, pd_t2, pd_l3, pd_t3, pd_l4, pd_t4, pd_l5, pd_t5, pd_l6, pd_t6, pd_l7, pd_t7, pd_l8, pd_t8, pd_l9, pd_t9, pd_l10, pd_t10, pd_l11, pd_t11, pd_l12, pd_t12, exists_eq, List.getElem?_cons_zero, List.getElem?_cons_succ, nx_ret, wipeE, backE, endQ, Fi.io, outsOf, isM, List.headD_cons, List.tail_cons, back, pickE, pick, fiOf_eq hm, fiMixed, psl_lst, cut_hi es (show (0 : Int) ≤ (m : Int) by omega)]
  refine st_nx ?_
  simp only [ok_v, ok_k, ok_op, ok_and, ok_or, ok_not, ok_if, ok_chain, ok_call, ok_callK, ok_mkK, ok_fld, ok_met, ok_sl, ok_mv, ok_lc, ok_pop, ok_es0, ok_es, ok_o0, ok_o1, okT_and, okT_or, okT_not, okT_k, okT_op, okT_ite, okT_chain, okT_call, okT_fld, okT_lc, okT_pop, okT_callK, okT_v, okTs0, okTs1, okI_val, okI_rng, okI_rng2, okI_zip, okI_enu, okI_slot, ok_pass, ok_brk, ok_cont, ok_expr, ok_set, ok_par, ok_unp, ok_augA, ok_seti, ok_setf, ok_app, ok_ifS, ok_for, ok_whl, ok_ret, late_k, late_op, late_and_, late_or_, late_not_, late_ite, late_chain, late_call, late_fld, late_met, late_sl, late_lc, late_pop, late_mv, late_callK, late_mkK, late_v, late_nil, get_c0, get_cs, List.set_cons_zero, List.set_cons_succ, stK_n, setKs_nil, setKs_n, Option.bind_some, Option.map_some, Option.some.injEq, exists_eq_left', exists_eq_left, pr_call, pr_fi, List.append_nil, List.cons_append, List.nil_append, List.map_cons, List.map_nil, List.replicate_succ, List.replicate_zero, D.int.injEq, D.bl.injEq, D.lst.injEq, D.str.injEq, D.tup.injEq, pd_addI, pd_sub, pd_eqI, pd_eqB, pd_eqS, pd_neI, pd_neB, pd_neS, pd_ltI, pd_leI, pd_gtI, pd_geI, pd_leS, pd_isN, pd_intI, pd_list, pd_listT, pd_tuple, pd_dct, truth, isNonD, reduceCtorEq, if_true, if_false, reduceIte, Bool.false_eq_true, Bool.not_true, Bool.not_false, List.length_cons, List.length_nil, true_and, and_true, exists_const, exists_eq', List.headD_cons, pd_l0, pd_t0, pd_l1, pd_t1, pd_l2, pd_t2, pd_l3, pd_t3, pd_l4, pd_t4, pd_l5, pd_t5, pd_l6, pd_t6, pd_l7, pd_t7, pd_l8, pd_t8, pd_l9, pd_t9, pd_l10, pd_t10, pd_l11, pd_t11, pd_l12, pd_t12, exists_eq, List.getElem?_cons_zero, List.getElem?_cons_succ, nx_ret, wipeE, backE, endQ, Fi.io, outsOf, isM, List.headD_cons, List.tail_cons, back, pickE, pick, itD]
  have hes : ∀ d ∈ es.take m, ∃ c, letr c = true ∧ d = .str [c] := fun d hd => by
    have h1 := hperm.mem_iff.mp (List.mem_of_mem_take hd)
    obtain ⟨c, hc, rfl⟩ := List.mem_map.mp h1
    exact ⟨c, letters_letr c hc, rfl⟩
  have htl : (es.take m).length = m := by rw [List.length_take]; omega
  rw [Int.toNat_natCast]
  generalize es.take m = fs at hes htl
  have hb5 : Bag (k - 33) t4 := hb4.mono (by simp [letters]; omega)
  refine lcL_ok (fun xs e acc => (∀ d ∈ xs, ∃ c, letr c = true ∧ d = .str [c]) ∧ ∃ (ys : List (List Nat)) (t' : D) (x : Option D), e = [some t', some (.int m), some (.str cs), some (.int a), some (.lst fs), x, none] ∧ (∀ y ∈ ys, Wd y ∧ 1 ≤ y.length ∧ y.length ≤ 6) ∧ acc = ys.map .str ∧ ys.length + xs.length = m ∧ Bag (k - 33 - ys.length) t') ?_ ?_ _ _ _ ?_
  · rintro x xs e acc ⟨hx, ys, t5, x5, rfl, hy, rfl, hlen2, hb6⟩
    rw [List.length_cons] at hlen2
    obtain ⟨c, hc, rfl⟩ := hx x (List.mem_cons_self ..)
    refine ⟨rfl, _, rfl, ?_⟩
    have hw1 : Wd (cs.take a.toNat) := fun z hz => hw z (List.mem_of_mem_take hz)
    have hw2 : Wd (cs.drop a.toNat) := fun z hz => hw z (List.mem_of_mem_drop hz)
    have hw3 : Wd [c] := fun z hz => by simp at hz; rw [hz]; exact hc
    have l1 : (cs.take a.toNat).length + (cs.drop a.toNat).length ≤ 5 := by rw [List.length_take, List.length_drop]; omega
    simp only [ok_v, ok_k, ok_op, ok_and, ok_or, ok_not, ok_if, ok_chain, ok_call, ok_callK, ok_mkK, ok_fld, ok_met, ok_sl, ok_mv, ok_lc, ok_pop, ok_es0, ok_es, ok_o0, ok_o1, okT_and, okT_or, okT_not, okT_k, okT_op, okT_ite, okT_chain, okT_call, okT_fld, okT_lc, okT_pop, okT_callK, okT_v, okTs0, okTs1, okI_val, okI_rng, okI_rng2, okI_zip, okI_enu, okI_slot, ok_pass, ok_brk, ok_cont, ok_expr, ok_set, ok_par, ok_unp, ok_augA, ok_seti, ok_setf, ok_app, ok_ifS, ok_for, ok_whl, ok_ret, late_k, late_op, late_and_, late_or_, late_not_, late_ite, late_chain, late_call, late_fld, late_met, late_sl, late_lc, late_pop, late_mv, late_callK, late_mkK, late_v, late_nil, get_c0, get_cs, List.set_cons_zero, List.set_cons_succ, stK_n, setKs_nil, setKs_n, Option.bind_some, Option.map_some, Option.some.injEq, exists_eq_left', exists_eq_left, pr_call, pr_fi, List.append_nil, List.cons_append, List.nil_append, List.map_cons, List.map_nil, List.replicate_succ, List.replicate_zero, D.int.injEq, D.bl.injEq, D.lst.injEq, D.str.injEq, D.tup.injEq, pd_addI, pd_sub, pd_eqI, pd_eqB, pd_eqS, pd_neI, pd_neB, pd_neS, pd_ltI, pd_leI, pd_gtI, pd_geI, pd_leS, pd_isN, pd_intI, pd_list, pd_listT, pd_tuple, pd_dct, truth, isNonD, reduceCtorEq, if_true, if_false, reduceIte, Bool.false_eq_true, Bool.not_true, Bool.not_false, List.length_cons, List.length_nil, true_and, and_true, exists_const, exists_eq', List.headD_cons, pd_l0, pd_t0, pd_l1, pd_t1, pd_l2, pd_t2, pd_l3, pd_t3, pd_l4, pd_t4, pd_l5, pd_t5, pd_l6, pd_t6, pd_l7, pd_t7, pd_l8, pd_t8, pd_l9, pd_t9, pd_l10, pd_t10, pd_l11, pd_t11, pd_l12, pd_t12, exists_eq, List.getElem?_cons_zero, List.getElem?_cons_succ, nx_ret, wipeE, backE, endQ, Fi.io, outsOf, isM, List.headD_cons, List.tail_cons, back, pickE, pick, psl_str (show cs.length ≤ 1000000 by omega), cut_hi cs a0, cut_lo cs a0]
    refine ⟨_, pd_addS (small_le (by simp only [List.length_cons, List.length_nil]; omega)), ?_⟩
    refine (pull_ok hp hb6 (by omega) (by decide) (by decide +kernel)).imp ?_
    rintro _ _ ⟨b, t6, rfl, rfl, b0, b1, hb7⟩
    have fin : ∀ (y : List Nat), Wd y → 1 ≤ y.length → y.length ≤ 6 → small (ys.map D.str).length = true ∧ (∀ d ∈ xs, ∃ c, letr c = true ∧ d = .str [c]) ∧ ∃ (ys' : List (List Nat)) (t' : D) (x : Option D), [some t6, some (.int m), some (.str cs), some (.int a), some (.lst fs), none, none] = [some t', some (.int m), some (.str cs), some (.int a), some (.lst fs), x, none] ∧ (∀ y ∈ ys', Wd y ∧ 1 ≤ y.length ∧ y.length ≤ 6) ∧ ys.map D.str ++ [.str y] = ys'.map .str ∧ ys'.length + xs.length = m ∧ Bag (k - 33 - ys'.length) t' := fun y w1 w2 w3 => by
      refine ⟨small_le (by simp; omega), fun d hd => hx d (List.mem_cons_of_mem _ hd), ys ++ [y], t6, none, rfl, fun z hz => ?_, by simp, by simp; omega, hb7.mono (by simp; omega)⟩
      rcases List.mem_append.mp hz with hz | hz
      · exact hy z hz
      · simp at hz; subst hz; exact ⟨w1, w2, w3⟩
    simp only [ok_v, ok_k, ok_op, ok_and, ok_or, ok_not, ok_if, ok_chain, ok_call, ok_callK, ok_mkK, ok_fld, ok_met, ok_sl, ok_mv, ok_lc, ok_pop, ok_es0, ok_es, ok_o0, ok_o1, okT_and, okT_or, okT_not, okT_k, okT_op, okT_ite, okT_chain, okT_call, okT_fld, okT_lc, okT_pop, okT_callK, okT_v, okTs0, okTs1, okI_val, okI_rng, okI_rng2, okI_zip, okI_enu, okI_slot, ok_pass, ok_brk, ok_cont, ok_expr, ok_set, ok_par, ok_unp, ok_augA, ok_seti, ok_setf, ok_app, ok_ifS, ok_for, ok_whl, ok_ret, late_k, late_op, late_and_, late_or_, late_not_, late_ite, late_chain, late_call, late_fld, late_met, late_sl, late_lc, late_pop, late_mv, late_callK, late_mkK, late_v, late_nil, get_c0, get_cs, List.set_cons_zero, List.set_cons_succ, stK_n, setKs_nil, setKs_n, Option.bind_some, Option.map_some, Option.some.injEq, exists_eq_left', exists_eq_left, pr_call, pr_fi, List.append_nil, List.cons_append, List.nil_append, List.map_cons, List.map_nil, List.replicate_succ, List.replicate_zero, D.int.injEq, D.bl.injEq, D.lst.injEq, D.str.injEq, D.tup.injEq, pd_addI, pd_sub, pd_eqI, pd_eqB, pd_eqS, pd_neI, pd_neB, pd_neS, pd_ltI, pd_leI, pd_gtI, pd_geI, pd_leS, pd_isN, pd_intI, pd_list, pd_listT, pd_tuple, pd_dct, truth, isNonD, reduceCtorEq, if_true, if_false, reduceIte, Bool.false_eq_true, Bool.not_true, Bool.not_false, List.length_cons, List.length_nil, true_and, and_true, exists_const, exists_eq', List.headD_cons, pd_l0, pd_t0, pd_l1, pd_t1, pd_l2, pd_t2, pd_l3, pd_t3, pd_l4, pd_t4, pd_l5, pd_t5, pd_l6, pd_t6, pd_l7, pd_t7, pd_l8, pd_t8, pd_l9, pd_t9, pd_l10, pd_t10, pd_l11, pd_t11, pd_l12, pd_t12, exists_eq, List.getElem?_cons_zero, List.getElem?_cons_succ, nx_ret, wipeE, backE, endQ, Fi.io, outsOf, isM, List.headD_cons, List.tail_cons, back, pickE, pick, fiOf_eq hp, fiPull, psl_str (show cs.length ≤ 1000000 by omega), cut_hi cs a0, cut_lo cs a0]
    split
    · refine ⟨_, pd_addS (small_le (by simp only [List.length_append, List.length_cons, List.length_nil]; omega)), ?_⟩
      exact fin _ ((hw1.app hw3).app hw2) (by simp only [List.length_append, List.length_cons, List.length_nil]; omega) (by simp only [List.length_append, List.length_cons, List.length_nil]; omega)
    · refine ⟨_, pd_addS (small_le (by simp only [List.length_append, List.length_cons, List.length_nil]; omega)), ?_⟩
      exact fin _ ((hw1.app hw3).app fun _ h => nomatch h) (by simp only [List.length_append, List.length_cons, List.length_nil]; omega) (by simp only [List.length_append, List.length_cons, List.length_nil]; omega)
  · rintro e acc ⟨_, ys, t5, x5, rfl, hy, rfl, hlen2, hb6⟩
    have hlen2 : ys.length = m := by simpa using hlen2
    refine ⟨rfl, ?_⟩
    exact ⟨ys, t5, rfl, hlen2, hy, rfl, hb6.mono (by omega)⟩
  · exact ⟨hes, [], t4, _, rfl, (fun _ h => nomatch h), rfl, by simpa using htl, hb5⟩
end
end TE
/-! Tp6: the greatest common divisor, new powers. -/
namespace TE
open PySem L2
theorem whlL_ok {test : Ev → R Bool} {body : Ev → R Fl} {Q : Fl → Ev → Prop} (I : Nat → Ev → Prop)
    (step : ∀ n e, I n e → (test e).Ok fun b e1 => if b = true then (body e1).Ok (fun f e2 => match f with
      | .next => ∃ m, m < n ∧ I m e2
      | .cont => ∃ m, m < n ∧ I m e2
      | .brk => Q .next e2
      | .ret d => Q (.ret d) e2) else Q .next e1) : ∀ (K n : Nat) (e : Ev), n < K → I n e → (whlL test body K e).Ok Q
  | 0, _, _, h, _ => absurd h (Nat.not_lt_zero _)
  | K + 1, n, e, hK, h => by
    obtain ⟨b, e1, h1, h2⟩ := step n e h
    unfold whlL
    simp only [h1, R.bind]
    cases b with
    | false =>
      rw [if_neg (by decide)] at h2
      exact R.ok_ok.mpr h2
    | true =>
      rw [if_pos rfl] at h2
      obtain ⟨f, e2, h3, h4⟩ := h2
      simp only [if_true, h3, R.bind]
      cases f with
      | next =>
        obtain ⟨m, hm, hI⟩ := h4
        exact whlL_ok I step K m e2 (by omega) hI
      | cont =>
        obtain ⟨m, hm, hI⟩ := h4
        exact whlL_ok I step K m e2 (by omega) hI
      | brk => exact R.ok_ok.mpr h4
      | ret d => exact R.ok_ok.mpr h4
def dfGcd : Df := ⟨⟨[.n, .n], false⟩, [], [(.whl (.v 1) [(.par [(0, false), (1, false)] [(.v 1), (.op .mod [(.v 0), (.v 1)])])]), (.ret (.v 0))]⟩
def dfPower (num gcd : Nat) : Df := ⟨⟨[.m, .n, .n], true⟩, [.n], [(.if_ (.or_ (.not_ (.call num [(.v 1)] [])) (.or_ (.not_ (.call num [(.v 2)] [])) (.or_ (.op .lt [(.v 1), (.k (.int 0))]) (.op .lt [(.v 2), (.k (.int 1))])))) [.bad] []), (.set 3 false (.call gcd [(.v 1), (.v 2)] [])), (.setf 0 "top" (.op .fdv [(.v 1), (.v 3)])), (.setf 0 "bottom" (.op .fdv [(.v 2), (.v 3)]))]⟩
theorem fiGcd : dfGcd.fi = ⟨[.n, .n], false⟩ := rfl
theorem fiPower {a b : Nat} : (dfPower a b).fi = ⟨[.m, .n, .n], true⟩ := rfl
section
variable {pg : Pg} {KK n i nC num gcd : Nat}
theorem gcd_ok {a b : Nat} (h : pg.defs[i]? = some dfGcd) (hb : b < KK) : (pg.callN KK (n + 1) i [.int a, .int b]).Ok fun d o => d = .int (Nat.gcd a b : Nat) ∧ o = [none, none] := by
  refine callN_ok h rfl ?_
  refine st_go ?_
  simp only [ok_v, ok_k, ok_op, ok_and, ok_or, ok_not, ok_if, ok_chain, ok_call, ok_callK, ok_mkK, ok_fld, ok_met, ok_sl, ok_mv, ok_lc, ok_pop, ok_es0, ok_es, ok_o0, ok_o1, okT_and, okT_or, okT_not, okT_k, okT_op, okT_ite, okT_chain, okT_call, okT_fld, okT_lc, okT_pop, okT_callK, okT_v, okTs0, okTs1, okI_val, okI_rng, okI_rng2, okI_zip, okI_enu, okI_slot, ok_pass, ok_brk, ok_cont, ok_expr, ok_set, ok_par, ok_unp, ok_augA, ok_seti, ok_setf, ok_app, ok_ifS, ok_for, ok_whl, ok_ret, late_k, late_op, late_and_, late_or_, late_not_, late_ite, late_chain, late_call, late_fld, late_met, late_sl, late_lc, late_pop, late_mv, late_callK, late_mkK, late_v, late_nil, get_c0, get_cs, List.set_cons_zero, List.set_cons_succ, stK_n, setKs_nil, setKs_n, Option.bind_some, Option.map_some, Option.some.injEq, exists_eq_left', exists_eq_left, pr_call, pr_fi, List.append_nil, List.cons_append, List.nil_append, List.map_cons, List.map_nil, List.replicate_succ, List.replicate_zero, D.int.injEq, D.bl.injEq, D.lst.injEq, D.str.injEq, D.tup.injEq, pd_addI, pd_sub, pd_eqI, pd_eqB, pd_eqS, pd_neI, pd_neB, pd_neS, pd_ltI, pd_leI, pd_gtI, pd_geI, pd_leS, pd_isN, pd_intI, pd_list, pd_listT, pd_tuple, pd_dct, truth, isNonD, reduceCtorEq, if_true, if_false, reduceIte, Bool.false_eq_true, Bool.not_true, Bool.not_false, List.length_cons, List.length_nil, true_and, and_true, exists_const, exists_eq', List.headD_cons, pd_l0, pd_t0, pd_l1, pd_t1, pd_l2, pd_t2, pd_l3, pd_t3, pd_l4, pd_t4, pd_l5, pd_t5, pd_l6, pd_t6, pd_l7, pd_t7, pd_l8, pd_t8, pd_l9, pd_t9, pd_l10, pd_t10, pd_l11, pd_t11, pd_l12, pd_t12, exists_eq, dfGcd]
  refine whlL_ok (fun k e => ∃ x y : Nat, e = [some (.int x), some (.int y)] ∧ y = k ∧ Nat.gcd x y = Nat.gcd a b) ?_ _ b _ hb ⟨a, b, rfl, rfl, rfl⟩
  rintro k e ⟨x, y, rfl, rfl, hg⟩
  simp only [ok_v, ok_k, ok_op, ok_and, ok_or, ok_not, ok_if, ok_chain, ok_call, ok_callK, ok_mkK, ok_fld, ok_met, ok_sl, ok_mv, ok_lc, ok_pop, ok_es0, ok_es, ok_o0, ok_o1, okT_and, okT_or, okT_not, okT_k, okT_op, okT_ite, okT_chain, okT_call, okT_fld, okT_lc, okT_pop, okT_callK, okT_v, okTs0, okTs1, okI_val, okI_rng, okI_rng2, okI_zip, okI_enu, okI_slot, ok_pass, ok_brk, ok_cont, ok_expr, ok_set, ok_par, ok_unp, ok_augA, ok_seti, ok_setf, ok_app, ok_ifS, ok_for, ok_whl, ok_ret, late_k, late_op, late_and_, late_or_, late_not_, late_ite, late_chain, late_call, late_fld, late_met, late_sl, late_lc, late_pop, late_mv, late_callK, late_mkK, late_v, late_nil, get_c0, get_cs, List.set_cons_zero, List.set_cons_succ, stK_n, setKs_nil, setKs_n, Option.bind_some, Option.map_some, Option.some.injEq, exists_eq_left', exists_eq_left, pr_call, pr_fi, List.append_nil, List.cons_append, List.nil_append, List.map_cons, List.map_nil, List.replicate_succ, List.replicate_zero, D.int.injEq, D.bl.injEq, D.lst.injEq, D.str.injEq, D.tup.injEq, pd_addI, pd_sub, pd_eqI, pd_eqB, pd_eqS, pd_neI, pd_neB, pd_neS, pd_ltI, pd_leI, pd_gtI, pd_geI, pd_leS, pd_isN, pd_intI, pd_list, pd_listT, pd_tuple, pd_dct, truth, isNonD, reduceCtorEq, if_true, if_false, reduceIte, Bool.false_eq_true, Bool.not_true, Bool.not_false, List.length_cons, List.length_nil, true_and, and_true, exists_const, exists_eq', List.headD_cons, pd_l0, pd_t0, pd_l1, pd_t1, pd_l2, pd_t2, pd_l3, pd_t3, pd_l4, pd_t4, pd_l5, pd_t5, pd_l6, pd_t6, pd_l7, pd_t7, pd_l8, pd_t8, pd_l9, pd_t9, pd_l10, pd_t10, pd_l11, pd_t11, pd_l12, pd_t12, exists_eq]
  by_cases hy : y = 0
  · subst hy
    simp only [ok_v, ok_k, ok_op, ok_and, ok_or, ok_not, ok_if, ok_chain, ok_call, ok_callK, ok_mkK, ok_fld, ok_met, ok_sl, ok_mv, ok_lc, ok_pop, ok_es0, ok_es, ok_o0, ok_o1, okT_and, okT_or, okT_not, okT_k, okT_op, okT_ite, okT_chain, okT_call, okT_fld, okT_lc, okT_pop, okT_callK, okT_v, okTs0, okTs1, okI_val, okI_rng, okI_rng2, okI_zip, okI_enu, okI_slot, ok_pass, ok_brk, ok_cont, ok_expr, ok_set, ok_par, ok_unp, ok_augA, ok_seti, ok_setf, ok_app, ok_ifS, ok_for, ok_whl, ok_ret, late_k, late_op, late_and_, late_or_, late_not_, late_ite, late_chain, late_call, late_fld, late_met, late_sl, late_lc, late_pop, late_mv, late_callK, late_mkK, late_v, late_nil, get_c0, get_cs, List.set_cons_zero, List.set_cons_succ, stK_n, setKs_nil, setKs_n, Option.bind_some, Option.map_some, Option.some.injEq, exists_eq_left', exists_eq_left, pr_call, pr_fi, List.append_nil, List.cons_append, List.nil_append, List.map_cons, List.map_nil, List.replicate_succ, List.replicate_zero, D.int.injEq, D.bl.injEq, D.lst.injEq, D.str.injEq, D.tup.injEq, pd_addI, pd_sub, pd_eqI, pd_eqB, pd_eqS, pd_neI, pd_neB, pd_neS, pd_ltI, pd_leI, pd_gtI, pd_geI, pd_leS, pd_isN, pd_intI, pd_list, pd_listT, pd_tuple, pd_dct, truth, isNonD, reduceCtorEq, if_true, if_false, reduceIte, Bool.false_eq_true, Bool.not_true, Bool.not_false, List.length_cons, List.length_nil, true_and, and_true, exists_const, exists_eq', List.headD_cons, pd_l0, pd_t0, pd_l1, pd_t1, pd_l2, pd_t2, pd_l3, pd_t3, pd_l4, pd_t4, pd_l5, pd_t5, pd_l6, pd_t6, pd_l7, pd_t7, pd_l8, pd_t8, pd_l9, pd_t9, pd_l10, pd_t10, pd_l11, pd_t11, pd_l12, pd_t12, exists_eq, bne_self_eq_false, Int.natCast_zero, Int.ofNat_zero, Int.cast_ofNat_Int]
    refine st_nx ?_
    simp only [ok_v, ok_k, ok_op, ok_and, ok_or, ok_not, ok_if, ok_chain, ok_call, ok_callK, ok_mkK, ok_fld, ok_met, ok_sl, ok_mv, ok_lc, ok_pop, ok_es0, ok_es, ok_o0, ok_o1, okT_and, okT_or, okT_not, okT_k, okT_op, okT_ite, okT_chain, okT_call, okT_fld, okT_lc, okT_pop, okT_callK, okT_v, okTs0, okTs1, okI_val, okI_rng, okI_rng2, okI_zip, okI_enu, okI_slot, ok_pass, ok_brk, ok_cont, ok_expr, ok_set, ok_par, ok_unp, ok_augA, ok_seti, ok_setf, ok_app, ok_ifS, ok_for, ok_whl, ok_ret, late_k, late_op, late_and_, late_or_, late_not_, late_ite, late_chain, late_call, late_fld, late_met, late_sl, late_lc, late_pop, late_mv, late_callK, late_mkK, late_v, late_nil, get_c0, get_cs, List.set_cons_zero, List.set_cons_succ, stK_n, setKs_nil, setKs_n, Option.bind_some, Option.map_some, Option.some.injEq, exists_eq_left', exists_eq_left, pr_call, pr_fi, List.append_nil, List.cons_append, List.nil_append, List.map_cons, List.map_nil, List.replicate_succ, List.replicate_zero, D.int.injEq, D.bl.injEq, D.lst.injEq, D.str.injEq, D.tup.injEq, pd_addI, pd_sub, pd_eqI, pd_eqB, pd_eqS, pd_neI, pd_neB, pd_neS, pd_ltI, pd_leI, pd_gtI, pd_geI, pd_leS, pd_isN, pd_intI, pd_list, pd_listT, pd_tuple, pd_dct, truth, isNonD, reduceCtorEq, if_true, if_false, reduceIte, Bool.false_eq_true, Bool.not_true, Bool.not_false, List.length_cons, List.length_nil, true_and, and_true, exists_const, exists_eq', List.headD_cons, pd_l0, pd_t0, pd_l1, pd_t1, pd_l2, pd_t2, pd_l3, pd_t3, pd_l4, pd_t4, pd_l5, pd_t5, pd_l6, pd_t6, pd_l7, pd_t7, pd_l8, pd_t8, pd_l9, pd_t9, pd_l10, pd_t10, pd_l11, pd_t11, pd_l12, pd_t12, exists_eq, List.getElem?_cons_zero, List.getElem?_cons_succ, nx_ret, wipeE, backE, endQ, Fi.io, outsOf, isM, List.headD_cons, List.tail_cons, back, pickE, pick]
    rw [Nat.gcd_zero_right] at hg
    rw [hg]
  · have h0 : ((y : Int) != 0) = true := by simpa using hy
    simp only [ok_v, ok_k, ok_op, ok_and, ok_or, ok_not, ok_if, ok_chain, ok_call, ok_callK, ok_mkK, ok_fld, ok_met, ok_sl, ok_mv, ok_lc, ok_pop, ok_es0, ok_es, ok_o0, ok_o1, okT_and, okT_or, okT_not, okT_k, okT_op, okT_ite, okT_chain, okT_call, okT_fld, okT_lc, okT_pop, okT_callK, okT_v, okTs0, okTs1, okI_val, okI_rng, okI_rng2, okI_zip, okI_enu, okI_slot, ok_pass, ok_brk, ok_cont, ok_expr, ok_set, ok_par, ok_unp, ok_augA, ok_seti, ok_setf, ok_app, ok_ifS, ok_for, ok_whl, ok_ret, late_k, late_op, late_and_, late_or_, late_not_, late_ite, late_chain, late_call, late_fld, late_met, late_sl, late_lc, late_pop, late_mv, late_callK, late_mkK, late_v, late_nil, get_c0, get_cs, List.set_cons_zero, List.set_cons_succ, stK_n, setKs_nil, setKs_n, Option.bind_some, Option.map_some, Option.some.injEq, exists_eq_left', exists_eq_left, pr_call, pr_fi, List.append_nil, List.cons_append, List.nil_append, List.map_cons, List.map_nil, List.replicate_succ, List.replicate_zero, D.int.injEq, D.bl.injEq, D.lst.injEq, D.str.injEq, D.tup.injEq, pd_addI, pd_sub, pd_eqI, pd_eqB, pd_eqS, pd_neI, pd_neB, pd_neS, pd_ltI, pd_leI, pd_gtI, pd_geI, pd_leS, pd_isN, pd_intI, pd_list, pd_listT, pd_tuple, pd_dct, truth, isNonD, reduceCtorEq, if_true, if_false, reduceIte, Bool.false_eq_true, Bool.not_true, Bool.not_false, List.length_cons, List.length_nil, true_and, and_true, exists_const, exists_eq', List.headD_cons, pd_l0, pd_t0, pd_l1, pd_t1, pd_l2, pd_t2, pd_l3, pd_t3, pd_l4, pd_t4, pd_l5, pd_t5, pd_l6, pd_t6, pd_l7, pd_t7, pd_l8, pd_t8, pd_l9, pd_t9, pd_l10, pd_t10, pd_l11, pd_t11, pd_l12, pd_t12, exists_eq, h0]
    refine st_go ?_
    simp only [ok_v, ok_k, ok_op, ok_and, ok_or, ok_not, ok_if, ok_chain, ok_call, ok_callK, ok_mkK, ok_fld, ok_met, ok_sl, ok_mv, ok_lc, ok_pop, ok_es0, ok_es, ok_o0, ok_o1, okT_and, okT_or, okT_not, okT_k, okT_op, okT_ite, okT_chain, okT_call, okT_fld, okT_lc, okT_pop, okT_callK, okT_v, okTs0, okTs1, okI_val, okI_rng, okI_rng2, okI_zip, okI_enu, okI_slot, ok_pass, ok_brk, ok_cont, ok_expr, ok_set, ok_par, ok_unp, ok_augA, ok_seti, ok_setf, ok_app, ok_ifS, ok_for, ok_whl, ok_ret, late_k, late_op, late_and_, late_or_, late_not_, late_ite, late_chain, late_call, late_fld, late_met, late_sl, late_lc, late_pop, late_mv, late_callK, late_mkK, late_v, late_nil, get_c0, get_cs, List.set_cons_zero, List.set_cons_succ, stK_n, setKs_nil, setKs_n, Option.bind_some, Option.map_some, Option.some.injEq, exists_eq_left', exists_eq_left, pr_call, pr_fi, List.append_nil, List.cons_append, List.nil_append, List.map_cons, List.map_nil, List.replicate_succ, List.replicate_zero, D.int.injEq, D.bl.injEq, D.lst.injEq, D.str.injEq, D.tup.injEq, pd_addI, pd_sub, pd_eqI, pd_eqB, pd_eqS, pd_neI, pd_neB, pd_neS, pd_ltI, pd_leI, pd_gtI, pd_geI, pd_leS, pd_isN, pd_intI, pd_list, pd_listT, pd_tuple, pd_dct, truth, isNonD, reduceCtorEq, if_true, if_false, reduceIte, Bool.false_eq_true, Bool.not_true, Bool.not_false, List.length_cons, List.length_nil, true_and, and_true, exists_const, exists_eq', List.headD_cons, pd_l0, pd_t0, pd_l1, pd_t1, pd_l2, pd_t2, pd_l3, pd_t3, pd_l4, pd_t4, pd_l5, pd_t5, pd_l6, pd_t6, pd_l7, pd_t7, pd_l8, pd_t8, pd_l9, pd_t9, pd_l10, pd_t10, pd_l11, pd_t11, pd_l12, pd_t12, exists_eq, pd_mod (show (0 : Int) < (y : Int) by omega)]
    refine st_end ?_
    refine ⟨x % y, Nat.mod_lt _ (by omega), y, x % y, by simp, rfl, ?_⟩
    rw [← hg, Nat.gcd_comm y, ← Nat.gcd_rec, Nat.gcd_comm]
theorem power_ok {a b C : Nat} (h : pg.defs[i]? = some (dfPower num gcd)) (hn : pg.defs[num]? = some (dfNum nC)) (hg : pg.defs[gcd]? = some dfGcd) (hf : pg.flds.getD C [] = [("top" : Str), ("bottom" : Str)]) (h1 : 1 ≤ b) (hb : b < KK) (hl : b < 2 ^ 200) :
    (pg.callN KK (n + 2) i [.obj C [], .int a, .int b]).Ok fun d o => d = .non ∧ o = [some (.obj C [.int (a / Nat.gcd a b : Nat), .int (b / Nat.gcd a b : Nat)]), none, none] := by
  have g1 : 0 < Nat.gcd a b := Nat.gcd_pos_of_pos_right _ (by omega)
  have g2 : Nat.gcd a b ≤ b := Nat.gcd_le_right _ (by omega)
  refine callN_ok h rfl ?_
  refine st_go ?_
  simp only [ok_v, ok_k, ok_op, ok_and, ok_or, ok_not, ok_if, ok_chain, ok_call, ok_callK, ok_mkK, ok_fld, ok_met, ok_sl, ok_mv, ok_lc, ok_pop, ok_es0, ok_es, ok_o0, ok_o1, okT_and, okT_or, okT_not, okT_k, okT_op, okT_ite, okT_chain, okT_call, okT_fld, okT_lc, okT_pop, okT_callK, okT_v, okTs0, okTs1, okI_val, okI_rng, okI_rng2, okI_zip, okI_enu, okI_slot, ok_pass, ok_brk, ok_cont, ok_expr, ok_set, ok_par, ok_unp, ok_augA, ok_seti, ok_setf, ok_app, ok_ifS, ok_for, ok_whl, ok_ret, late_k, late_op, late_and_, late_or_, late_not_, late_ite, late_chain, late_call, late_fld, late_met, late_sl, late_lc, late_pop, late_mv, late_callK, late_mkK, late_v, late_nil, get_c0, get_cs, List.set_cons_zero, List.set_cons_succ, stK_n, setKs_nil, setKs_n, Option.bind_some, Option.map_some, Option.some.injEq, exists_eq_left', exists_eq_left, pr_call, pr_fi, List.append_nil, List.cons_append, List.nil_append, List.map_cons, List.map_nil, List.replicate_succ, List.replicate_zero, D.int.injEq, D.bl.injEq, D.lst.injEq, D.str.injEq, D.tup.injEq, pd_addI, pd_sub, pd_eqI, pd_eqB, pd_eqS, pd_neI, pd_neB, pd_neS, pd_ltI, pd_leI, pd_gtI, pd_geI, pd_leS, pd_isN, pd_intI, pd_list, pd_listT, pd_tuple, pd_dct, truth, isNonD, reduceCtorEq, if_true, if_false, reduceIte, Bool.false_eq_true, Bool.not_true, Bool.not_false, List.length_cons, List.length_nil, true_and, and_true, exists_const, exists_eq', List.headD_cons, pd_l0, pd_t0, pd_l1, pd_t1, pd_l2, pd_t2, pd_l3, pd_t3, pd_l4, pd_t4, pd_l5, pd_t5, pd_l6, pd_t6, pd_l7, pd_t7, pd_l8, pd_t8, pd_l9, pd_t9, pd_l10, pd_t10, pd_l11, pd_t11, pd_l12, pd_t12, exists_eq, dfPower]
  refine (num_ok hn (d := .int a) rfl).imp ?_
  rintro _ _ ⟨rfl, rfl⟩
  simp only [ok_v, ok_k, ok_op, ok_and, ok_or, ok_not, ok_if, ok_chain, ok_call, ok_callK, ok_mkK, ok_fld, ok_met, ok_sl, ok_mv, ok_lc, ok_pop, ok_es0, ok_es, ok_o0, ok_o1, okT_and, okT_or, okT_not, okT_k, okT_op, okT_ite, okT_chain, okT_call, okT_fld, okT_lc, okT_pop, okT_callK, okT_v, okTs0, okTs1, okI_val, okI_rng, okI_rng2, okI_zip, okI_enu, okI_slot, ok_pass, ok_brk, ok_cont, ok_expr, ok_set, ok_par, ok_unp, ok_augA, ok_seti, ok_setf, ok_app, ok_ifS, ok_for, ok_whl, ok_ret, late_k, late_op, late_and_, late_or_, late_not_, late_ite, late_chain, late_call, late_fld, late_met, late_sl, late_lc, late_pop, late_mv, late_callK, late_mkK, late_v, late_nil, get_c0, get_cs, List.set_cons_zero, List.set_cons_succ, stK_n, setKs_nil, setKs_n, Option.bind_some, Option.map_some, Option.some.injEq, exists_eq_left', exists_eq_left, pr_call, pr_fi, List.append_nil, List.cons_append, List.nil_append, List.map_cons, List.map_nil, List.replicate_succ, List.replicate_zero, D.int.injEq, D.bl.injEq, D.lst.injEq, D.str.injEq, D.tup.injEq, pd_addI, pd_sub, pd_eqI, pd_eqB, pd_eqS, pd_neI, pd_neB, pd_neS, pd_ltI, pd_leI, pd_gtI, pd_geI, pd_leS, pd_isN, pd_intI, pd_list, pd_listT, pd_tuple, pd_dct, truth, isNonD, reduceCtorEq, if_true, if_false, reduceIte, Bool.false_eq_true, Bool.not_true, Bool.not_false, List.length_cons, List.length_nil, true_and, and_true, exists_const, exists_eq', List.headD_cons, pd_l0, pd_t0, pd_l1, pd_t1, pd_l2, pd_t2, pd_l3, pd_t3, pd_l4, pd_t4, pd_l5, pd_t5, pd_l6, pd_t6, pd_l7, pd_t7, pd_l8, pd_t8, pd_l9, pd_t9, pd_l10, pd_t10, pd_l11, pd_t11, pd_l12, pd_t12, exists_eq, List.getElem?_cons_zero, List.getElem?_cons_succ, nx_ret, wipeE, backE, endQ, Fi.io, outsOf, isM, List.headD_cons, List.tail_cons, back, pickE, pick, numB, fiOf_eq hn, fiNum]
  refine (num_ok hn (d := .int b) rfl).imp ?_
  rintro _ _ ⟨rfl, rfl⟩
  have i1 : decide ((a : Int) < 0) = false := decide_eq_false (by omega)
  have i2 : decide ((b : Int) < 1) = false := decide_eq_false (by omega)
  simp only [ok_v, ok_k, ok_op, ok_and, ok_or, ok_not, ok_if, ok_chain, ok_call, ok_callK, ok_mkK, ok_fld, ok_met, ok_sl, ok_mv, ok_lc, ok_pop, ok_es0, ok_es, ok_o0, ok_o1, okT_and, okT_or, okT_not, okT_k, okT_op, okT_ite, okT_chain, okT_call, okT_fld, okT_lc, okT_pop, okT_callK, okT_v, okTs0, okTs1, okI_val, okI_rng, okI_rng2, okI_zip, okI_enu, okI_slot, ok_pass, ok_brk, ok_cont, ok_expr, ok_set, ok_par, ok_unp, ok_augA, ok_seti, ok_setf, ok_app, ok_ifS, ok_for, ok_whl, ok_ret, late_k, late_op, late_and_, late_or_, late_not_, late_ite, late_chain, late_call, late_fld, late_met, late_sl, late_lc, late_pop, late_mv, late_callK, late_mkK, late_v, late_nil, get_c0, get_cs, List.set_cons_zero, List.set_cons_succ, stK_n, setKs_nil, setKs_n, Option.bind_some, Option.map_some, Option.some.injEq, exists_eq_left', exists_eq_left, pr_call, pr_fi, List.append_nil, List.cons_append, List.nil_append, List.map_cons, List.map_nil, List.replicate_succ, List.replicate_zero, D.int.injEq, D.bl.injEq, D.lst.injEq, D.str.injEq, D.tup.injEq, pd_addI, pd_sub, pd_eqI, pd_eqB, pd_eqS, pd_neI, pd_neB, pd_neS, pd_ltI, pd_leI, pd_gtI, pd_geI, pd_leS, pd_isN, pd_intI, pd_list, pd_listT, pd_tuple, pd_dct, truth, isNonD, reduceCtorEq, if_true, if_false, reduceIte, Bool.false_eq_true, Bool.not_true, Bool.not_false, List.length_cons, List.length_nil, true_and, and_true, exists_const, exists_eq', List.headD_cons, pd_l0, pd_t0, pd_l1, pd_t1, pd_l2, pd_t2, pd_l3, pd_t3, pd_l4, pd_t4, pd_l5, pd_t5, pd_l6, pd_t6, pd_l7, pd_t7, pd_l8, pd_t8, pd_l9, pd_t9, pd_l10, pd_t10, pd_l11, pd_t11, pd_l12, pd_t12, exists_eq, List.getElem?_cons_zero, List.getElem?_cons_succ, nx_ret, wipeE, backE, endQ, Fi.io, outsOf, isM, List.headD_cons, List.tail_cons, back, pickE, pick, numB, fiOf_eq hn, fiNum, i1, i2]
  refine st_end0 ?_
  refine st_nx ?_
  simp only [ok_v, ok_k, ok_op, ok_and, ok_or, ok_not, ok_if, ok_chain, ok_call, ok_callK, ok_mkK, ok_fld, ok_met, ok_sl, ok_mv, ok_lc, ok_pop, ok_es0, ok_es, ok_o0, ok_o1, okT_and, okT_or, okT_not, okT_k, okT_op, okT_ite, okT_chain, okT_call, okT_fld, okT_lc, okT_pop, okT_callK, okT_v, okTs0, okTs1, okI_val, okI_rng, okI_rng2, okI_zip, okI_enu, okI_slot, ok_pass, ok_brk, ok_cont, ok_expr, ok_set, ok_par, ok_unp, ok_augA, ok_seti, ok_setf, ok_app, ok_ifS, ok_for, ok_whl, ok_ret, late_k, late_op, late_and_, late_or_, late_not_, late_ite, late_chain, late_call, late_fld, late_met, late_sl, late_lc, late_pop, late_mv, late_callK, late_mkK, late_v, late_nil, get_c0, get_cs, List.set_cons_zero, List.set_cons_succ, stK_n, setKs_nil, setKs_n, Option.bind_some, Option.map_some, Option.some.injEq, exists_eq_left', exists_eq_left, pr_call, pr_fi, List.append_nil, List.cons_append, List.nil_append, List.map_cons, List.map_nil, List.replicate_succ, List.replicate_zero, D.int.injEq, D.bl.injEq, D.lst.injEq, D.str.injEq, D.tup.injEq, pd_addI, pd_sub, pd_eqI, pd_eqB, pd_eqS, pd_neI, pd_neB, pd_neS, pd_ltI, pd_leI, pd_gtI, pd_geI, pd_leS, pd_isN, pd_intI, pd_list, pd_listT, pd_tuple, pd_dct, truth, isNonD, reduceCtorEq, if_true, if_false, reduceIte, Bool.false_eq_true, Bool.not_true, Bool.not_false, List.length_cons, List.length_nil, true_and, and_true, exists_const, exists_eq', List.headD_cons, pd_l0, pd_t0, pd_l1, pd_t1, pd_l2, pd_t2, pd_l3, pd_t3, pd_l4, pd_t4, pd_l5, pd_t5, pd_l6, pd_t6, pd_l7, pd_t7, pd_l8, pd_t8, pd_l9, pd_t9, pd_l10, pd_t10, pd_l11, pd_t11, pd_l12, pd_t12, exists_eq, List.getElem?_cons_zero, List.getElem?_cons_succ, nx_ret, wipeE, backE, endQ, Fi.io, outsOf, isM, List.headD_cons, List.tail_cons, back, pickE, pick]
  refine (gcd_ok hg hb).imp ?_
  rintro _ _ ⟨rfl, rfl⟩
  have lg : ((Nat.gcd a b : Nat) : Int).natAbs.log2 < 9000 := log_int (by omega) (by
    have : Nat.gcd a b < 2 ^ 9000 := Nat.lt_of_le_of_lt g2 (Nat.lt_trans hl (Nat.pow_lt_pow_right (by decide) (by decide)))
    exact_mod_cast this) (by decide)
  simp only [ok_v, ok_k, ok_op, ok_and, ok_or, ok_not, ok_if, ok_chain, ok_call, ok_callK, ok_mkK, ok_fld, ok_met, ok_sl, ok_mv, ok_lc, ok_pop, ok_es0, ok_es, ok_o0, ok_o1, okT_and, okT_or, okT_not, okT_k, okT_op, okT_ite, okT_chain, okT_call, okT_fld, okT_lc, okT_pop, okT_callK, okT_v, okTs0, okTs1, okI_val, okI_rng, okI_rng2, okI_zip, okI_enu, okI_slot, ok_pass, ok_brk, ok_cont, ok_expr, ok_set, ok_par, ok_unp, ok_augA, ok_seti, ok_setf, ok_app, ok_ifS, ok_for, ok_whl, ok_ret, late_k, late_op, late_and_, late_or_, late_not_, late_ite, late_chain, late_call, late_fld, late_met, late_sl, late_lc, late_pop, late_mv, late_callK, late_mkK, late_v, late_nil, get_c0, get_cs, List.set_cons_zero, List.set_cons_succ, stK_n, setKs_nil, setKs_n, Option.bind_some, Option.map_some, Option.some.injEq, exists_eq_left', exists_eq_left, pr_call, pr_fi, List.append_nil, List.cons_append, List.nil_append, List.map_cons, List.map_nil, List.replicate_succ, List.replicate_zero, D.int.injEq, D.bl.injEq, D.lst.injEq, D.str.injEq, D.tup.injEq, pd_addI, pd_sub, pd_eqI, pd_eqB, pd_eqS, pd_neI, pd_neB, pd_neS, pd_ltI, pd_leI, pd_gtI, pd_geI, pd_leS, pd_isN, pd_intI, pd_list, pd_listT, pd_tuple, pd_dct, truth, isNonD, reduceCtorEq, if_true, if_false, reduceIte, Bool.false_eq_true, Bool.not_true, Bool.not_false, List.length_cons, List.length_nil, true_and, and_true, exists_const, exists_eq', List.headD_cons, pd_l0, pd_t0, pd_l1, pd_t1, pd_l2, pd_t2, pd_l3, pd_t3, pd_l4, pd_t4, pd_l5, pd_t5, pd_l6, pd_t6, pd_l7, pd_t7, pd_l8, pd_t8, pd_l9, pd_t9, pd_l10, pd_t10, pd_l11, pd_t11, pd_l12, pd_t12, exists_eq, List.getElem?_cons_zero, List.getElem?_cons_succ, nx_ret, wipeE, backE, endQ, Fi.io, outsOf, isM, List.headD_cons, List.tail_cons, back, pickE, pick, fiOf_eq hg, fiGcd]
  refine st_nx ?_
  simp only [ok_v, ok_k, ok_op, ok_and, ok_or, ok_not, ok_if, ok_chain, ok_call, ok_callK, ok_mkK, ok_fld, ok_met, ok_sl, ok_mv, ok_lc, ok_pop, ok_es0, ok_es, ok_o0, ok_o1, okT_and, okT_or, okT_not, okT_k, okT_op, okT_ite, okT_chain, okT_call, okT_fld, okT_lc, okT_pop, okT_callK, okT_v, okTs0, okTs1, okI_val, okI_rng, okI_rng2, okI_zip, okI_enu, okI_slot, ok_pass, ok_brk, ok_cont, ok_expr, ok_set, ok_par, ok_unp, ok_augA, ok_seti, ok_setf, ok_app, ok_ifS, ok_for, ok_whl, ok_ret, late_k, late_op, late_and_, late_or_, late_not_, late_ite, late_chain, late_call, late_fld, late_met, late_sl, late_lc, late_pop, late_mv, late_callK, late_mkK, late_v, late_nil, get_c0, get_cs, List.set_cons_zero, List.set_cons_succ, stK_n, setKs_nil, setKs_n, Option.bind_some, Option.map_some, Option.some.injEq, exists_eq_left', exists_eq_left, pr_call, pr_fi, List.append_nil, List.cons_append, List.nil_append, List.map_cons, List.map_nil, List.replicate_succ, List.replicate_zero, D.int.injEq, D.bl.injEq, D.lst.injEq, D.str.injEq, D.tup.injEq, pd_addI, pd_sub, pd_eqI, pd_eqB, pd_eqS, pd_neI, pd_neB, pd_neS, pd_ltI, pd_leI, pd_gtI, pd_geI, pd_leS, pd_isN, pd_intI, pd_list, pd_listT, pd_tuple, pd_dct, truth, isNonD, reduceCtorEq, if_true, if_false, reduceIte, Bool.false_eq_true, Bool.not_true, Bool.not_false, List.length_cons, List.length_nil, true_and, and_true, exists_const, exists_eq', List.headD_cons, pd_l0, pd_t0, pd_l1, pd_t1, pd_l2, pd_t2, pd_l3, pd_t3, pd_l4, pd_t4, pd_l5, pd_t5, pd_l6, pd_t6, pd_l7, pd_t7, pd_l8, pd_t8, pd_l9, pd_t9, pd_l10, pd_t10, pd_l11, pd_t11, pd_l12, pd_t12, exists_eq, List.getElem?_cons_zero, List.getElem?_cons_succ, nx_ret, wipeE, backE, endQ, Fi.io, outsOf, isM, List.headD_cons, List.tail_cons, back, pickE, pick, pd_fdv (show (0 : Int) < ((Nat.gcd a b : Nat) : Int) by omega) lg]
  refine ⟨C, [], rfl, ?_, ?_⟩
  · show (pg.flds.getD C [])[0]? = _ ∧ ((pg.flds.getD C []).take 0).contains _ = false ∧ _
    rw [hf]
    exact ⟨by decide, by decide, by simp⟩
  refine st_nx ?_
  simp only [ok_v, ok_k, ok_op, ok_and, ok_or, ok_not, ok_if, ok_chain, ok_call, ok_callK, ok_mkK, ok_fld, ok_met, ok_sl, ok_mv, ok_lc, ok_pop, ok_es0, ok_es, ok_o0, ok_o1, okT_and, okT_or, okT_not, okT_k, okT_op, okT_ite, okT_chain, okT_call, okT_fld, okT_lc, okT_pop, okT_callK, okT_v, okTs0, okTs1, okI_val, okI_rng, okI_rng2, okI_zip, okI_enu, okI_slot, ok_pass, ok_brk, ok_cont, ok_expr, ok_set, ok_par, ok_unp, ok_augA, ok_seti, ok_setf, ok_app, ok_ifS, ok_for, ok_whl, ok_ret, late_k, late_op, late_and_, late_or_, late_not_, late_ite, late_chain, late_call, late_fld, late_met, late_sl, late_lc, late_pop, late_mv, late_callK, late_mkK, late_v, late_nil, get_c0, get_cs, List.set_cons_zero, List.set_cons_succ, stK_n, setKs_nil, setKs_n, Option.bind_some, Option.map_some, Option.some.injEq, exists_eq_left', exists_eq_left, pr_call, pr_fi, List.append_nil, List.cons_append, List.nil_append, List.map_cons, List.map_nil, List.replicate_succ, List.replicate_zero, D.int.injEq, D.bl.injEq, D.lst.injEq, D.str.injEq, D.tup.injEq, pd_addI, pd_sub, pd_eqI, pd_eqB, pd_eqS, pd_neI, pd_neB, pd_neS, pd_ltI, pd_leI, pd_gtI, pd_geI, pd_leS, pd_isN, pd_intI, pd_list, pd_listT, pd_tuple, pd_dct, truth, isNonD, reduceCtorEq, if_true, if_false, reduceIte, Bool.false_eq_true, Bool.not_true, Bool.not_false, List.length_cons, List.length_nil, true_and, and_true, exists_const, exists_eq', List.headD_cons, pd_l0, pd_t0, pd_l1, pd_t1, pd_l2, pd_t2, pd_l3, pd_t3, pd_l4, pd_t4, pd_l5, pd_t5, pd_l6, pd_t6, pd_l7, pd_t7, pd_l8, pd_t8, pd_l9, pd_t9, pd_l10, pd_t10, pd_l11, pd_t11, pd_l12, pd_t12, exists_eq, List.getElem?_cons_zero, List.getElem?_cons_succ, nx_ret, wipeE, backE, endQ, Fi.io, outsOf, isM, List.headD_cons, List.tail_cons, back, pickE, pick, pd_fdv (show (0 : Int) < ((Nat.gcd a b : Nat) : Int) by omega) lg]
  refine ⟨C, _, rfl, ?_, ?_⟩
  · show (pg.flds.getD C [])[1]? = _ ∧ ((pg.flds.getD C []).take 1).contains _ = false ∧ _
    rw [hf]
    exact ⟨by decide, by decide, by simp⟩
  refine st_end ?_
  simp only [List.getElem?_cons_zero, List.getElem?_cons_succ, nx_ret, wipeE, backE, endQ, Fi.io, outsOf, isM, List.headD_cons, List.tail_cons, back, pickE, pick]
  exact ⟨trivial, rfl⟩
end
end TE
/-! Tp7: powers and their operators. -/
namespace TE
open PySem L2
theorem late_own {w : Ow} {as : List E} {es : List E} {d0 : D} {ds : List D} {e : Ev} : late (.own w as :: es) (d0 :: ds) e = (late es ds e).map (d0 :: ·) := rfl
section
variable {p : Pr} {e : Ev}
theorem ok_own {w : Ow} {es : List E} {Q : D → Ev → Prop} : (evE p (.own w es) e).Ok Q ↔ (evEs p es e).Ok fun ds e1 => ∃ ds', late es ds e1 = some ds' ∧ ∃ d, p.ownD w ds' = some d ∧ Q d e1 := by
  rw [evE, R.ok_bind]
  refine ok_iff fun ds e1 => ?_
  cases late es ds e1 <;> simp [R.ok_bad, R.ok_ofO']
theorem okT_own {w : Ow} {es : List E} {Q : Bool → Ev → Prop} : (evT p (.own w es) e).Ok Q ↔ (evE p (.own w es) e).Ok fun d e1 => ∃ b, truth d = some b ∧ Q b e1 := by
  rw [show evT p (.own w es) e = (evE p (.own w es) e).bind fun d e1 => .ofO (truth d) e1 by simp only [evT], R.ok_bind]
  exact ok_iff fun d e1 => R.ok_ofO'
theorem own_of {w : Ow} {ds as : List D} {f : Nat} {r v : D} (hw : w ≠ .eqL) (hF : ownF p.dun p.sta w ds = some (f, as)) (hc : (p.call f as).Ok fun d _ => d = r) (hv : ownV w r = some v) : p.ownD w ds = some v := by
  obtain ⟨d, o, h1, rfl⟩ := hc
  have : p.ownC w ds = some v := by
    unfold Pr.ownC
    rw [hF]
    simp only [Option.bind_some]
    rw [h1]
    exact hv
  cases w <;> first | exact this | exact absurd rfl hw
end
theorem ex_obj {C0 : Nat} {ds0 : List D} {P : Nat → List D → Prop} : (∃ C, ∃ ds, D.obj C0 ds0 = D.obj C ds ∧ P C ds) ↔ P C0 ds0 :=
  ⟨fun ⟨_, _, h, k⟩ => by cases h; exact k, fun h => ⟨_, _, rfl, h⟩⟩
theorem pr_flds {pg : Pg} {c : Nat → List D → C} : (pg.prOf c).flds = fun C => pg.flds.getD C [] := rfl
theorem pr_dun {pg : Pg} {c : Nat → List D → C} : (pg.prOf c).dun = fun C m => (pg.meths.getD C []).lookup m := rfl
theorem lk_top {a b : D} : (([("top" : Str), ("bottom" : Str)] : List Str).zip [a, b]).lookup ("top" : Str) = some a := rfl
theorem lk_bot {a b : D} : (([("top" : Str), ("bottom" : Str)] : List Str).zip [a, b]).lookup ("bottom" : Str) = some b := rfl
theorem isi_obj {ds : List D} : pD (.isi 1 [.own 0]) [.obj 0 ds] = some (.bl true) := rfl
theorem isi_int {i : Int} : pD (.isi 1 [.own 0]) [.int i] = some (.bl false) := rfl
theorem add_nat {i j : Nat} : pD .add [.int (i : Int), .int (j : Int)] = some (.int ((i + j : Nat) : Int)) := by rw [pd_addI, Int.natCast_add]
theorem log_nat {i k : Nat} (h : i < 2 ^ k) (hk : 0 < k) : ((i : Int)).natAbs.log2 < k := by
  rw [Int.natAbs_natCast]
  exact log_lt h hk
theorem mul_nat {i j : Nat} (hi : i < 2 ^ 100) (hj : j < 2 ^ 100) : pD .mul [.int (i : Int), .int (j : Int)] = some (.int ((i * j : Nat) : Int)) := by
  have h1 := log_nat hi (by decide)
  have h2 := log_nat hj (by decide)
  rw [pd_mulI (by omega), Int.natCast_mul]
/-! ### fractions in lowest terms -/
def pw (t b : Nat) : D := .obj 0 [.int ((t / Nat.gcd t b : Nat) : Int), .int ((b / Nat.gcd t b : Nat) : Int)]
theorem pw_scale {k t b : Nat} (hk : 0 < k) : pw (k * t) (k * b) = pw t b := by
  unfold pw
  rw [Nat.gcd_mul_left, Nat.mul_div_mul_left _ _ hk, Nat.mul_div_mul_left _ _ hk]
/-- top and bottom in lowest terms -/
structure Lo (t b p q : Nat) : Prop where
  ex : ∃ g, 0 < g ∧ t = g * p ∧ b = g * q
  q1 : 1 ≤ q
  pt : p ≤ t
  qb : q ≤ b
theorem pw_lo {t b : Nat} (hb : 1 ≤ b) : ∃ p q : Nat, pw t b = .obj 0 [.int (p : Int), .int (q : Int)] ∧ Lo t b p q := by
  have g1 : 0 < Nat.gcd t b := Nat.gcd_pos_of_pos_right _ (by omega)
  refine ⟨t / Nat.gcd t b, b / Nat.gcd t b, rfl, ⟨Nat.gcd t b, g1, (Nat.mul_div_cancel' (Nat.gcd_dvd_left t b)).symm, (Nat.mul_div_cancel' (Nat.gcd_dvd_right t b)).symm⟩, ?_, Nat.div_le_self _ _, Nat.div_le_self _ _⟩
  exact Nat.div_pos (Nat.gcd_le_right _ (by omega)) g1
theorem lo_add {t b p q u v r s : Nat} (h1 : Lo t b p q) (h2 : Lo u v r s) : pw (p * s + r * q) (q * s) = pw (t * v + u * b) (b * v) := by
  obtain ⟨g, hg, rfl, rfl⟩ := h1.ex
  obtain ⟨h, hh, rfl, rfl⟩ := h2.ex
  rw [← pw_scale (Nat.mul_pos hg hh) (t := p * s + r * q)]
  congr 1
  · rw [Nat.mul_add]
    congr 1 <;> ac_rfl
  · ac_rfl
theorem lo_mul {t b p q u v r s : Nat} (h1 : Lo t b p q) (h2 : Lo u v r s) : pw (p * r) (q * s) = pw (t * u) (b * v) := by
  obtain ⟨g, hg, rfl, rfl⟩ := h1.ex
  obtain ⟨h, hh, rfl, rfl⟩ := h2.ex
  rw [← pw_scale (Nat.mul_pos hg hh) (t := p * r)]
  congr 1 <;> ac_rfl
theorem lo_addI {t b p q c : Nat} (h1 : Lo t b p q) : pw (p + c * q) q = pw (t + c * b) b := by
  obtain ⟨g, hg, rfl, rfl⟩ := h1.ex
  rw [← pw_scale hg (t := p + c * q)]
  congr 1
  rw [Nat.mul_add]
  congr 1
  ac_rfl
theorem lo_mulI {t b p q c : Nat} (h1 : Lo t b p q) : pw (p * c) q = pw (t * c) b := by
  obtain ⟨g, hg, rfl, rfl⟩ := h1.ex
  rw [← pw_scale hg (t := p * c)]
  congr 1
  ac_rfl
/-! ### the defs -/
def dfAdd (num : Nat) : Df := ⟨⟨[.n, .n], false⟩, [], [(.if_ (.op (.isi 1 [.own 0]) [(.v 1)]) [(.ret (.mkK 0 0 [(.op .add [(.op .mul [(.fld "top" (.v 0)), (.fld "bottom" (.v 1))]), (.op .mul [(.fld "top" (.v 1)), (.fld "bottom" (.v 0))])]), (.op .mul [(.fld "bottom" (.v 0)), (.fld "bottom" (.v 1))])]))] []), (.if_ (.and_ (.call num [(.v 1)] []) (.op .ge [(.v 1), (.k (.int 0))])) [(.ret (.mkK 0 0 [(.op .add [(.fld "top" (.v 0)), (.op .mul [(.v 1), (.fld "bottom" (.v 0))])]), (.fld "bottom" (.v 0))]))] []), (.ret .bad)]⟩
def dfRadd : Df := ⟨⟨[.n, .n], false⟩, [], [(.ret (.own .add [(.v 0), (.v 1)]))]⟩
def dfMul (num : Nat) : Df := ⟨⟨[.n, .n], false⟩, [], [(.if_ (.op (.isi 1 [.own 0]) [(.v 1)]) [(.ret (.mkK 0 0 [(.op .mul [(.fld "top" (.v 0)), (.fld "top" (.v 1))]), (.op .mul [(.fld "bottom" (.v 0)), (.fld "bottom" (.v 1))])]))] []), (.if_ (.and_ (.call num [(.v 1)] []) (.op .ge [(.v 1), (.k (.int 0))])) [(.ret (.mkK 0 0 [(.op .mul [(.fld "top" (.v 0)), (.v 1)]), (.fld "bottom" (.v 0))]))] []), (.ret .bad)]⟩
def dfRmul : Df := ⟨⟨[.n, .n], false⟩, [], [(.ret (.own .mul [(.v 0), (.v 1)]))]⟩
def dfEq : Df := ⟨⟨[.n, .n], false⟩, [], [(.if_ (.not_ (.op (.isi 1 [.own 0]) [(.v 1)])) [(.ret .bad)] []), (.ret (.and_ (.op .eq [(.fld "top" (.v 0)), (.fld "top" (.v 1))]) (.op .eq [(.fld "bottom" (.v 0)), (.fld "bottom" (.v 1))])))]⟩
def dfStr : Df := ⟨⟨[.n], true⟩, [], [(.if_ (.op .eq [(.fld "bottom" (.v 0)), (.k (.int 1))]) [(.ret (.op (.bf .str) [(.fld "top" (.v 0))]))] []), (.ret .bad)]⟩
def dfTotal : Df := ⟨⟨[.n], true⟩, [.n, .n, .n], [(.par [(1, false), (2, false)] [(.k (.int 0)), (.k (.int 1))]), (.for_ (.nm 3) (.val (.v 0)) [(.set 1 false (.op .add [(.op .mul [(.v 1), (.fld "bottom" (.v 3))]), (.op .mul [(.fld "top" (.v 3)), (.v 2)])])), (.set 2 false (.op .mul [(.v 2), (.fld "bottom" (.v 3))]))]), (.ret (.mkK 0 0 [(.v 1), (.v 2)]))]⟩
theorem fiAdd {n : Nat} : (dfAdd n).fi = ⟨[.n, .n], false⟩ := rfl
/-- where powers stand in a text -/
structure PwT (pg : Pg) (ini num gcd ad ra mu rm eq st : Nat) : Prop where
  s0 : pg.sh[0]? = some ⟨ini, 2, [], [.inl 0, .inl 1]⟩
  hi : pg.defs[ini]? = some (dfPower num gcd)
  hn : pg.defs[num]? = some (dfNum 1)
  hg : pg.defs[gcd]? = some dfGcd
  ha : pg.defs[ad]? = some (dfAdd num)
  hra : pg.defs[ra]? = some dfRadd
  hm : pg.defs[mu]? = some (dfMul num)
  hrm : pg.defs[rm]? = some dfRmul
  he : pg.defs[eq]? = some dfEq
  hs : pg.defs[st]? = some dfStr
  fl : pg.flds.getD 0 [] = [("top" : Str), ("bottom" : Str)]
  d1 : (pg.meths.getD 0 []).lookup ("__add__" : Str) = some ad
  d2 : (pg.meths.getD 0 []).lookup ("__radd__" : Str) = some ra
  d3 : (pg.meths.getD 0 []).lookup ("__mul__" : Str) = some mu
  d4 : (pg.meths.getD 0 []).lookup ("__rmul__" : Str) = some rm
  d5 : (pg.meths.getD 0 []).lookup ("__eq__" : Str) = some eq
  d6 : (pg.meths.getD 0 []).lookup ("__str__" : Str) = some st
section
variable {pg : Pg} {KK n ini num gcd ad ra mu rm eq st : Nat}
theorem mk_ok (P : PwT pg ini num gcd ad ra mu rm eq st) {a b : Nat} (h1 : 1 ≤ b) (hb : b < KK) (hl : b < 2 ^ 200) : (pg.callN KK (n + 2) ini [.obj 0 [], .int a, .int b]).Ok fun d o => d = .non ∧ o = [some (pw a b), none, none] :=
  power_ok P.hi P.hn P.hg P.fl h1 hb hl
theorem add_ok (P : PwT pg ini num gcd ad ra mu rm eq st) {p q r s : Nat} (hq : 1 ≤ q) (hs : 1 ≤ s) (hp2 : p < 2 ^ 60) (hq2 : q < 2 ^ 60) (hr2 : r < 2 ^ 60) (hs2 : s < 2 ^ 60) (hK : 2 ^ 120 ≤ KK) : (pg.callN KK (n + 3) ad [.obj 0 [.int (p : Int), .int (q : Int)], .obj 0 [.int (r : Int), .int (s : Int)]]).Ok fun d _ => d = pw (p * s + r * q) (q * s) := by
  have l1 : q * s < 2 ^ 120 := Nat.lt_of_lt_of_le (Nat.mul_lt_mul'' hq2 hs2) (by decide)
  have l2 : ∀ x : Nat, x < 2 ^ 60 → x < 2 ^ 100 := fun x h => Nat.lt_trans h (by decide)
  refine callN_ok P.ha rfl ?_
  refine st_go ?_
  simp only [ok_v, ok_k, ok_op, ok_and, ok_or, ok_not, ok_if, ok_chain, ok_call, ok_callK, ok_mkK, ok_fld, ok_met, ok_sl, ok_mv, ok_lc, ok_pop, ok_es0, ok_es, ok_o0, ok_o1, okT_and, okT_or, okT_not, okT_k, okT_op, okT_ite, okT_chain, okT_call, okT_fld, okT_lc, okT_pop, okT_callK, okT_v, okTs0, okTs1, okI_val, okI_rng, okI_rng2, okI_zip, okI_enu, okI_slot, ok_pass, ok_brk, ok_cont, ok_expr, ok_set, ok_par, ok_unp, ok_augA, ok_seti, ok_setf, ok_app, ok_ifS, ok_for, ok_whl, ok_ret, late_k, late_op, late_and_, late_or_, late_not_, late_ite, late_chain, late_call, late_fld, late_met, late_sl, late_lc, late_pop, late_mv, late_callK, late_mkK, late_v, late_nil, get_c0, get_cs, List.set_cons_zero, List.set_cons_succ, stK_n, setKs_nil, setKs_n, Option.bind_some, Option.map_some, Option.some.injEq, exists_eq_left', exists_eq_left, pr_call, pr_fi, List.append_nil, List.cons_append, List.nil_append, List.map_cons, List.map_nil, List.replicate_succ, List.replicate_zero, D.int.injEq, D.bl.injEq, D.lst.injEq, D.str.injEq, D.tup.injEq, pd_sub, pd_eqI, pd_eqB, pd_eqS, pd_neI, pd_neB, pd_neS, pd_ltI, pd_leI, pd_gtI, pd_geI, pd_leS, pd_isN, pd_intI, pd_list, pd_listT, pd_tuple, pd_dct, truth, isNonD, reduceCtorEq, if_true, if_false, reduceIte, Bool.false_eq_true, Bool.not_true, Bool.not_false, List.length_cons, List.length_nil, true_and, and_true, exists_const, exists_eq', List.headD_cons, pd_l0, pd_t0, pd_l1, pd_t1, pd_l2, pd_t2, pd_l3, pd_t3, pd_l4, pd_t4, pd_l5, pd_t5, pd_l6, pd_t6, pd_l7, pd_t7, pd_l8, pd_t8, pd_l9, pd_t9, pd_l10, pd_t10, pd_l11, pd_t11, pd_l12, pd_t12, exists_eq, ok_own, okT_own, late_own, dfAdd, isi_obj]
  refine st_go ?_
  simp only [ok_v, ok_k, ok_op, ok_and, ok_or, ok_not, ok_if, ok_chain, ok_call, ok_callK, ok_mkK, ok_fld, ok_met, ok_sl, ok_mv, ok_lc, ok_pop, ok_es0, ok_es, ok_o0, ok_o1, okT_and, okT_or, okT_not, okT_k, okT_op, okT_ite, okT_chain, okT_call, okT_fld, okT_lc, okT_pop, okT_callK, okT_v, okTs0, okTs1, okI_val, okI_rng, okI_rng2, okI_zip, okI_enu, okI_slot, ok_pass, ok_brk, ok_cont, ok_expr, ok_set, ok_par, ok_unp, ok_augA, ok_seti, ok_setf, ok_app, ok_ifS, ok_for, ok_whl, ok_ret, late_k, late_op, late_and_, late_or_, late_not_, late_ite, late_chain, late_call, late_fld, late_met, late_sl, late_lc, late_pop, late_mv, late_callK, late_mkK, late_v, late_nil, get_c0, get_cs, List.set_cons_zero, List.set_cons_succ, stK_n, setKs_nil, setKs_n, Option.bind_some, Option.map_some, Option.some.injEq, exists_eq_left', exists_eq_left, pr_call, pr_fi, List.append_nil, List.cons_append, List.nil_append, List.map_cons, List.map_nil, List.replicate_succ, List.replicate_zero, D.int.injEq, D.bl.injEq, D.lst.injEq, D.str.injEq, D.tup.injEq, pd_sub, pd_eqI, pd_eqB, pd_eqS, pd_neI, pd_neB, pd_neS, pd_ltI, pd_leI, pd_gtI, pd_geI, pd_leS, pd_isN, pd_intI, pd_list, pd_listT, pd_tuple, pd_dct, truth, isNonD, reduceCtorEq, if_true, if_false, reduceIte, Bool.false_eq_true, Bool.not_true, Bool.not_false, List.length_cons, List.length_nil, true_and, and_true, exists_const, exists_eq', List.headD_cons, pd_l0, pd_t0, pd_l1, pd_t1, pd_l2, pd_t2, pd_l3, pd_t3, pd_l4, pd_t4, pd_l5, pd_t5, pd_l6, pd_t6, pd_l7, pd_t7, pd_l8, pd_t8, pd_l9, pd_t9, pd_l10, pd_t10, pd_l11, pd_t11, pd_l12, pd_t12, exists_eq, ok_own, okT_own, late_own, ex_obj, pr_flds, P.fl, lk_top, lk_bot, mul_nat (l2 _ hp2) (l2 _ hs2), mul_nat (l2 _ hr2) (l2 _ hq2), mul_nat (l2 _ hq2) (l2 _ hs2), add_nat, sh_eq P.s0, List.getElem?_cons_zero, List.getElem?_cons_succ, nx_ret, wipeE, backE, endQ, Fi.io, outsOf, isM, List.headD_cons, List.tail_cons, back, pickE, pick]
  refine (mk_ok P (Nat.mul_pos hq hs) (Nat.lt_of_lt_of_le l1 hK) (Nat.lt_trans l1 (by decide))).imp ?_
  rintro _ _ ⟨rfl, rfl⟩
  refine ⟨rfl, _, _, rfl, ?_⟩
  simp only [ok_v, ok_k, ok_op, ok_and, ok_or, ok_not, ok_if, ok_chain, ok_call, ok_callK, ok_mkK, ok_fld, ok_met, ok_sl, ok_mv, ok_lc, ok_pop, ok_es0, ok_es, ok_o0, ok_o1, okT_and, okT_or, okT_not, okT_k, okT_op, okT_ite, okT_chain, okT_call, okT_fld, okT_lc, okT_pop, okT_callK, okT_v, okTs0, okTs1, okI_val, okI_rng, okI_rng2, okI_zip, okI_enu, okI_slot, ok_pass, ok_brk, ok_cont, ok_expr, ok_set, ok_par, ok_unp, ok_augA, ok_seti, ok_setf, ok_app, ok_ifS, ok_for, ok_whl, ok_ret, late_k, late_op, late_and_, late_or_, late_not_, late_ite, late_chain, late_call, late_fld, late_met, late_sl, late_lc, late_pop, late_mv, late_callK, late_mkK, late_v, late_nil, get_c0, get_cs, List.set_cons_zero, List.set_cons_succ, stK_n, setKs_nil, setKs_n, Option.bind_some, Option.map_some, Option.some.injEq, exists_eq_left', exists_eq_left, pr_call, pr_fi, List.append_nil, List.cons_append, List.nil_append, List.map_cons, List.map_nil, List.replicate_succ, List.replicate_zero, D.int.injEq, D.bl.injEq, D.lst.injEq, D.str.injEq, D.tup.injEq, pd_sub, pd_eqI, pd_eqB, pd_eqS, pd_neI, pd_neB, pd_neS, pd_ltI, pd_leI, pd_gtI, pd_geI, pd_leS, pd_isN, pd_intI, pd_list, pd_listT, pd_tuple, pd_dct, truth, isNonD, reduceCtorEq, if_true, if_false, reduceIte, Bool.false_eq_true, Bool.not_true, Bool.not_false, List.length_cons, List.length_nil, true_and, and_true, exists_const, exists_eq', List.headD_cons, pd_l0, pd_t0, pd_l1, pd_t1, pd_l2, pd_t2, pd_l3, pd_t3, pd_l4, pd_t4, pd_l5, pd_t5, pd_l6, pd_t6, pd_l7, pd_t7, pd_l8, pd_t8, pd_l9, pd_t9, pd_l10, pd_t10, pd_l11, pd_t11, pd_l12, pd_t12, exists_eq, ok_own, okT_own, late_own, List.getElem?_cons_zero, List.getElem?_cons_succ, nx_ret, wipeE, backE, endQ, Fi.io, outsOf, isM, List.headD_cons, List.tail_cons, back, pickE, pick]
theorem addI_ok (P : PwT pg ini num gcd ad ra mu rm eq st) {p q c : Nat} (hq : 1 ≤ q) (hp2 : p < 2 ^ 60) (hq2 : q < 2 ^ 60) (hc2 : c < 2 ^ 60) (hK : 2 ^ 120 ≤ KK) : (pg.callN KK (n + 3) ad [.obj 0 [.int (p : Int), .int (q : Int)], .int (c : Int)]).Ok fun d _ => d = pw (p + c * q) q := by
  have l2 : ∀ x : Nat, x < 2 ^ 60 → x < 2 ^ 100 := fun x h => Nat.lt_trans h (by decide)
  refine callN_ok P.ha rfl ?_
  refine st_go ?_
  simp only [ok_v, ok_k, ok_op, ok_and, ok_or, ok_not, ok_if, ok_chain, ok_call, ok_callK, ok_mkK, ok_fld, ok_met, ok_sl, ok_mv, ok_lc, ok_pop, ok_es0, ok_es, ok_o0, ok_o1, okT_and, okT_or, okT_not, okT_k, okT_op, okT_ite, okT_chain, okT_call, okT_fld, okT_lc, okT_pop, okT_callK, okT_v, okTs0, okTs1, okI_val, okI_rng, okI_rng2, okI_zip, okI_enu, okI_slot, ok_pass, ok_brk, ok_cont, ok_expr, ok_set, ok_par, ok_unp, ok_augA, ok_seti, ok_setf, ok_app, ok_ifS, ok_for, ok_whl, ok_ret, late_k, late_op, late_and_, late_or_, late_not_, late_ite, late_chain, late_call, late_fld, late_met, late_sl, late_lc, late_pop, late_mv, late_callK, late_mkK, late_v, late_nil, get_c0, get_cs, List.set_cons_zero, List.set_cons_succ, stK_n, setKs_nil, setKs_n, Option.bind_some, Option.map_some, Option.some.injEq, exists_eq_left', exists_eq_left, pr_call, pr_fi, List.append_nil, List.cons_append, List.nil_append, List.map_cons, List.map_nil, List.replicate_succ, List.replicate_zero, D.int.injEq, D.bl.injEq, D.lst.injEq, D.str.injEq, D.tup.injEq, pd_sub, pd_eqI, pd_eqB, pd_eqS, pd_neI, pd_neB, pd_neS, pd_ltI, pd_leI, pd_gtI, pd_geI, pd_leS, pd_isN, pd_intI, pd_list, pd_listT, pd_tuple, pd_dct, truth, isNonD, reduceCtorEq, if_true, if_false, reduceIte, Bool.false_eq_true, Bool.not_true, Bool.not_false, List.length_cons, List.length_nil, true_and, and_true, exists_const, exists_eq', List.headD_cons, pd_l0, pd_t0, pd_l1, pd_t1, pd_l2, pd_t2, pd_l3, pd_t3, pd_l4, pd_t4, pd_l5, pd_t5, pd_l6, pd_t6, pd_l7, pd_t7, pd_l8, pd_t8, pd_l9, pd_t9, pd_l10, pd_t10, pd_l11, pd_t11, pd_l12, pd_t12, exists_eq, ok_own, okT_own, late_own, dfAdd, isi_int]
  refine st_end0 ?_
  refine st_nx ?_
  simp only [ok_v, ok_k, ok_op, ok_and, ok_or, ok_not, ok_if, ok_chain, ok_call, ok_callK, ok_mkK, ok_fld, ok_met, ok_sl, ok_mv, ok_lc, ok_pop, ok_es0, ok_es, ok_o0, ok_o1, okT_and, okT_or, okT_not, okT_k, okT_op, okT_ite, okT_chain, okT_call, okT_fld, okT_lc, okT_pop, okT_callK, okT_v, okTs0, okTs1, okI_val, okI_rng, okI_rng2, okI_zip, okI_enu, okI_slot, ok_pass, ok_brk, ok_cont, ok_expr, ok_set, ok_par, ok_unp, ok_augA, ok_seti, ok_setf, ok_app, ok_ifS, ok_for, ok_whl, ok_ret, late_k, late_op, late_and_, late_or_, late_not_, late_ite, late_chain, late_call, late_fld, late_met, late_sl, late_lc, late_pop, late_mv, late_callK, late_mkK, late_v, late_nil, get_c0, get_cs, List.set_cons_zero, List.set_cons_succ, stK_n, setKs_nil, setKs_n, Option.bind_some, Option.map_some, Option.some.injEq, exists_eq_left', exists_eq_left, pr_call, pr_fi, List.append_nil, List.cons_append, List.nil_append, List.map_cons, List.map_nil, List.replicate_succ, List.replicate_zero, D.int.injEq, D.bl.injEq, D.lst.injEq, D.str.injEq, D.tup.injEq, pd_sub, pd_eqI, pd_eqB, pd_eqS, pd_neI, pd_neB, pd_neS, pd_ltI, pd_leI, pd_gtI, pd_geI, pd_leS, pd_isN, pd_intI, pd_list, pd_listT, pd_tuple, pd_dct, truth, isNonD, reduceCtorEq, if_true, if_false, reduceIte, Bool.false_eq_true, Bool.not_true, Bool.not_false, List.length_cons, List.length_nil, true_and, and_true, exists_const, exists_eq', List.headD_cons, pd_l0, pd_t0, pd_l1, pd_t1, pd_l2, pd_t2, pd_l3, pd_t3, pd_l4, pd_t4, pd_l5, pd_t5, pd_l6, pd_t6, pd_l7, pd_t7, pd_l8, pd_t8, pd_l9, pd_t9, pd_l10, pd_t10, pd_l11, pd_t11, pd_l12, pd_t12, exists_eq, ok_own, okT_own, late_own]
  refine (num_ok P.hn (d := .int (c : Int)) rfl).imp ?_
  rintro _ _ ⟨rfl, rfl⟩
  simp only [ok_v, ok_k, ok_op, ok_and, ok_or, ok_not, ok_if, ok_chain, ok_call, ok_callK, ok_mkK, ok_fld, ok_met, ok_sl, ok_mv, ok_lc, ok_pop, ok_es0, ok_es, ok_o0, ok_o1, okT_and, okT_or, okT_not, okT_k, okT_op, okT_ite, okT_chain, okT_call, okT_fld, okT_lc, okT_pop, okT_callK, okT_v, okTs0, okTs1, okI_val, okI_rng, okI_rng2, okI_zip, okI_enu, okI_slot, ok_pass, ok_brk, ok_cont, ok_expr, ok_set, ok_par, ok_unp, ok_augA, ok_seti, ok_setf, ok_app, ok_ifS, ok_for, ok_whl, ok_ret, late_k, late_op, late_and_, late_or_, late_not_, late_ite, late_chain, late_call, late_fld, late_met, late_sl, late_lc, late_pop, late_mv, late_callK, late_mkK, late_v, late_nil, get_c0, get_cs, List.set_cons_zero, List.set_cons_succ, stK_n, setKs_nil, setKs_n, Option.bind_some, Option.map_some, Option.some.injEq, exists_eq_left', exists_eq_left, pr_call, pr_fi, List.append_nil, List.cons_append, List.nil_append, List.map_cons, List.map_nil, List.replicate_succ, List.replicate_zero, D.int.injEq, D.bl.injEq, D.lst.injEq, D.str.injEq, D.tup.injEq, pd_sub, pd_eqI, pd_eqB, pd_eqS, pd_neI, pd_neB, pd_neS, pd_ltI, pd_leI, pd_gtI, pd_geI, pd_leS, pd_isN, pd_intI, pd_list, pd_listT, pd_tuple, pd_dct, truth, isNonD, reduceCtorEq, if_true, if_false, reduceIte, Bool.false_eq_true, Bool.not_true, Bool.not_false, List.length_cons, List.length_nil, true_and, and_true, exists_const, exists_eq', List.headD_cons, pd_l0, pd_t0, pd_l1, pd_t1, pd_l2, pd_t2, pd_l3, pd_t3, pd_l4, pd_t4, pd_l5, pd_t5, pd_l6, pd_t6, pd_l7, pd_t7, pd_l8, pd_t8, pd_l9, pd_t9, pd_l10, pd_t10, pd_l11, pd_t11, pd_l12, pd_t12, exists_eq, ok_own, okT_own, late_own, List.getElem?_cons_zero, List.getElem?_cons_succ, nx_ret, wipeE, backE, endQ, Fi.io, outsOf, isM, List.headD_cons, List.tail_cons, back, pickE, pick, fiOf_eq P.hn, fiNum, numB, decide_eq_true (Int.natCast_nonneg c)]
  refine st_go ?_
  simp only [ok_v, ok_k, ok_op, ok_and, ok_or, ok_not, ok_if, ok_chain, ok_call, ok_callK, ok_mkK, ok_fld, ok_met, ok_sl, ok_mv, ok_lc, ok_pop, ok_es0, ok_es, ok_o0, ok_o1, okT_and, okT_or, okT_not, okT_k, okT_op, okT_ite, okT_chain, okT_call, okT_fld, okT_lc, okT_pop, okT_callK, okT_v, okTs0, okTs1, okI_val, okI_rng, okI_rng2, okI_zip, okI_enu, okI_slot, ok_pass, ok_brk, ok_cont, ok_expr, ok_set, ok_par, ok_unp, ok_augA, ok_seti, ok_setf, ok_app, ok_ifS, ok_for, ok_whl, ok_ret, late_k, late_op, late_and_, late_or_, late_not_, late_ite, late_chain, late_call, late_fld, late_met, late_sl, late_lc, late_pop, late_mv, late_callK, late_mkK, late_v, late_nil, get_c0, get_cs, List.set_cons_zero, List.set_cons_succ, stK_n, setKs_nil, setKs_n, Option.bind_some, Option.map_some, Option.some.injEq, exists_eq_left', exists_eq_left, pr_call, pr_fi, List.append_nil, List.cons_append, List.nil_append, List.map_cons, List.map_nil, List.replicate_succ, List.replicate_zero, D.int.injEq, D.bl.injEq, D.lst.injEq, D.str.injEq, D.tup.injEq, pd_sub, pd_eqI, pd_eqB, pd_eqS, pd_neI, pd_neB, pd_neS, pd_ltI, pd_leI, pd_gtI, pd_geI, pd_leS, pd_isN, pd_intI, pd_list, pd_listT, pd_tuple, pd_dct, truth, isNonD, reduceCtorEq, if_true, if_false, reduceIte, Bool.false_eq_true, Bool.not_true, Bool.not_false, List.length_cons, List.length_nil, true_and, and_true, exists_const, exists_eq', List.headD_cons, pd_l0, pd_t0, pd_l1, pd_t1, pd_l2, pd_t2, pd_l3, pd_t3, pd_l4, pd_t4, pd_l5, pd_t5, pd_l6, pd_t6, pd_l7, pd_t7, pd_l8, pd_t8, pd_l9, pd_t9, pd_l10, pd_t10, pd_l11, pd_t11, pd_l12, pd_t12, exists_eq, ok_own, okT_own, late_own, ex_obj, pr_flds, P.fl, lk_top, lk_bot, mul_nat (l2 _ hc2) (l2 _ hq2), add_nat, sh_eq P.s0, List.getElem?_cons_zero, List.getElem?_cons_succ, nx_ret, wipeE, backE, endQ, Fi.io, outsOf, isM, List.headD_cons, List.tail_cons, back, pickE, pick]
  refine (mk_ok P hq (Nat.lt_of_lt_of_le (Nat.lt_trans hq2 (by decide)) hK) (Nat.lt_trans hq2 (by decide))).imp ?_
  rintro _ _ ⟨rfl, rfl⟩
  refine ⟨rfl, _, _, rfl, ?_⟩
  simp only [ok_v, ok_k, ok_op, ok_and, ok_or, ok_not, ok_if, ok_chain, ok_call, ok_callK, ok_mkK, ok_fld, ok_met, ok_sl, ok_mv, ok_lc, ok_pop, ok_es0, ok_es, ok_o0, ok_o1, okT_and, okT_or, okT_not, okT_k, okT_op, okT_ite, okT_chain, okT_call, okT_fld, okT_lc, okT_pop, okT_callK, okT_v, okTs0, okTs1, okI_val, okI_rng, okI_rng2, okI_zip, okI_enu, okI_slot, ok_pass, ok_brk, ok_cont, ok_expr, ok_set, ok_par, ok_unp, ok_augA, ok_seti, ok_setf, ok_app, ok_ifS, ok_for, ok_whl, ok_ret, late_k, late_op, late_and_, late_or_, late_not_, late_ite, late_chain, late_call, late_fld, late_met, late_sl, late_lc, late_pop, late_mv, late_callK, late_mkK, late_v, late_nil, get_c0, get_cs, List.set_cons_zero, List.set_cons_succ, stK_n, setKs_nil, setKs_n, Option.bind_some, Option.map_some, Option.some.injEq, exists_eq_left', exists_eq_left, pr_call, pr_fi, List.append_nil, List.cons_append, List.nil_append, List.map_cons, List.map_nil, List.replicate_succ, List.replicate_zero, D.int.injEq, D.bl.injEq, D.lst.injEq, D.str.injEq, D.tup.injEq, pd_sub, pd_eqI, pd_eqB, pd_eqS, pd_neI, pd_neB, pd_neS, pd_ltI, pd_leI, pd_gtI, pd_geI, pd_leS, pd_isN, pd_intI, pd_list, pd_listT, pd_tuple, pd_dct, truth, isNonD, reduceCtorEq, if_true, if_false, reduceIte, Bool.false_eq_true, Bool.not_true, Bool.not_false, List.length_cons, List.length_nil, true_and, and_true, exists_const, exists_eq', List.headD_cons, pd_l0, pd_t0, pd_l1, pd_t1, pd_l2, pd_t2, pd_l3, pd_t3, pd_l4, pd_t4, pd_l5, pd_t5, pd_l6, pd_t6, pd_l7, pd_t7, pd_l8, pd_t8, pd_l9, pd_t9, pd_l10, pd_t10, pd_l11, pd_t11, pd_l12, pd_t12, exists_eq, ok_own, okT_own, late_own, List.getElem?_cons_zero, List.getElem?_cons_succ, nx_ret, wipeE, backE, endQ, Fi.io, outsOf, isM, List.headD_cons, List.tail_cons, back, pickE, pick]
theorem mul_ok (P : PwT pg ini num gcd ad ra mu rm eq st) {p q r s : Nat} (hq : 1 ≤ q) (hs : 1 ≤ s) (hp2 : p < 2 ^ 60) (hq2 : q < 2 ^ 60) (hr2 : r < 2 ^ 60) (hs2 : s < 2 ^ 60) (hK : 2 ^ 120 ≤ KK) : (pg.callN KK (n + 3) mu [.obj 0 [.int (p : Int), .int (q : Int)], .obj 0 [.int (r : Int), .int (s : Int)]]).Ok fun d _ => d = pw (p * r) (q * s) := by
  have l1 : q * s < 2 ^ 120 := Nat.lt_of_lt_of_le (Nat.mul_lt_mul'' hq2 hs2) (by decide)
  have l2 : ∀ x : Nat, x < 2 ^ 60 → x < 2 ^ 100 := fun x h => Nat.lt_trans h (by decide)
  refine callN_ok P.hm rfl ?_
  refine st_go ?_
  simp only [ok_v, ok_k, ok_op, ok_and, ok_or, ok_not, ok_if, ok_chain, ok_call, ok_callK, ok_mkK, ok_fld, ok_met, ok_sl, ok_mv, ok_lc, ok_pop, ok_es0, ok_es, ok_o0, ok_o1, okT_and, okT_or, okT_not, okT_k, okT_op, okT_ite, okT_chain, okT_call, okT_fld, okT_lc, okT_pop, okT_callK, okT_v, okTs0, okTs1, okI_val, okI_rng, okI_rng2, okI_zip, okI_enu, okI_slot, ok_pass, ok_brk, ok_cont, ok_expr, ok_set, ok_par, ok_unp, ok_augA, ok_seti, ok_setf, ok_app, ok_ifS, ok_for, ok_whl, ok_ret, late_k, late_op, late_and_, late_or_, late_not_, late_ite, late_chain, late_call, late_fld, late_met, late_sl, late_lc, late_pop, late_mv, late_callK, late_mkK, late_v, late_nil, get_c0, get_cs, List.set_cons_zero, List.set_cons_succ, stK_n, setKs_nil, setKs_n, Option.bind_some, Option.map_some, Option.some.injEq, exists_eq_left', exists_eq_left, pr_call, pr_fi, List.append_nil, List.cons_append, List.nil_append, List.map_cons, List.map_nil, List.replicate_succ, List.replicate_zero, D.int.injEq, D.bl.injEq, D.lst.injEq, D.str.injEq, D.tup.injEq, pd_sub, pd_eqI, pd_eqB, pd_eqS, pd_neI, pd_neB, pd_neS, pd_ltI, pd_leI, pd_gtI, pd_geI, pd_leS, pd_isN, pd_intI, pd_list, pd_listT, pd_tuple, pd_dct, truth, isNonD, reduceCtorEq, if_true, if_false, reduceIte, Bool.false_eq_true, Bool.not_true, Bool.not_false, List.length_cons, List.length_nil, true_and, and_true, exists_const, exists_eq', List.headD_cons, pd_l0, pd_t0, pd_l1, pd_t1, pd_l2, pd_t2, pd_l3, pd_t3, pd_l4, pd_t4, pd_l5, pd_t5, pd_l6, pd_t6, pd_l7, pd_t7, pd_l8, pd_t8, pd_l9, pd_t9, pd_l10, pd_t10, pd_l11, pd_t11, pd_l12, pd_t12, exists_eq, ok_own, okT_own, late_own, dfMul, isi_obj]
  refine st_go ?_
  simp only [ok_v, ok_k, ok_op, ok_and, ok_or, ok_not, ok_if, ok_chain, ok_call, ok_callK, ok_mkK, ok_fld, ok_met, ok_sl, ok_mv, ok_lc, ok_pop, ok_es0, ok_es, ok_o0, ok_o1, okT_and, okT_or, okT_not, okT_k, okT_op, okT_ite, okT_chain, okT_call, okT_fld, okT_lc, okT_pop, okT_callK, okT_v, okTs0, okTs1, okI_val, okI_rng, okI_rng2, okI_zip, okI_enu, okI_slot, ok_pass, ok_brk, ok_cont, ok_expr, ok_set, ok_par, ok_unp, ok_augA, ok_seti, ok_setf, ok_app, ok_ifS, ok_for, ok_whl, ok_ret, late_k, late_op, late_and_, late_or_, late_not_, late_ite, late_chain, late_call, late_fld, late_met, late_sl, late_lc, late_pop, late_mv, late_callK, late_mkK, late_v, late_nil, get_c0, get_cs, List.set_cons_zero, List.set_cons_succ, stK_n, setKs_nil, setKs_n, Option.bind_some, Option.map_some, Option.some.injEq, exists_eq_left', exists_eq_left, pr_call, pr_fi, List.append_nil, List.cons_append, List.nil_append, List.map_cons, List.map_nil, List.replicate_succ, List.replicate_zero, D.int.injEq, D.bl.injEq, D.lst.injEq, D.str.injEq, D.tup.injEq, pd_sub, pd_eqI, pd_eqB, pd_eqS, pd_neI, pd_neB, pd_neS, pd_ltI, pd_leI, pd_gtI, pd_geI, pd_leS, pd_isN, pd_intI, pd_list, pd_listT, pd_tuple, pd_dct, truth, isNonD, reduceCtorEq, if_true, if_false, reduceIte, Bool.false_eq_true, Bool.not_true, Bool.not_false, List.length_cons, List.length_nil, true_and, and_true, exists_const, exists_eq', List.headD_cons, pd_l0, pd_t0, pd_l1, pd_t1, pd_l2, pd_t2, pd_l3, pd_t3, pd_l4, pd_t4, pd_l5, pd_t5, pd_l6, pd_t6, pd_l7, pd_t7, pd_l8, pd_t8, pd_l9, pd_t9, pd_l10, pd_t10, pd_l11, pd_t11, pd_l12, pd_t12, exists_eq, ok_own, okT_own, late_own, ex_obj, pr_flds, P.fl, lk_top, lk_bot, mul_nat (l2 _ hp2) (l2 _ hr2), mul_nat (l2 _ hq2) (l2 _ hs2), sh_eq P.s0, List.getElem?_cons_zero, List.getElem?_cons_succ, nx_ret, wipeE, backE, endQ, Fi.io, outsOf, isM, List.headD_cons, List.tail_cons, back, pickE, pick]
  refine (mk_ok P (Nat.mul_pos hq hs) (Nat.lt_of_lt_of_le l1 hK) (Nat.lt_trans l1 (by decide))).imp ?_
  rintro _ _ ⟨rfl, rfl⟩
  refine ⟨rfl, _, _, rfl, ?_⟩
  simp only [ok_v, ok_k, ok_op, ok_and, ok_or, ok_not, ok_if, ok_chain, ok_call, ok_callK, ok_mkK, ok_fld, ok_met, ok_sl, ok_mv, ok_lc, ok_pop, ok_es0, ok_es, ok_o0, ok_o1, okT_and, okT_or, okT_not, okT_k, okT_op, okT_ite, okT_chain, okT_call, okT_fld, okT_lc, okT_pop, okT_callK, okT_v, okTs0, okTs1, okI_val, okI_rng, okI_rng2, okI_zip, okI_enu, okI_slot, ok_pass, ok_brk, ok_cont, ok_expr, ok_set, ok_par, ok_unp, ok_augA, ok_seti, ok_setf, ok_app, ok_ifS, ok_for, ok_whl, ok_ret, late_k, late_op, late_and_, late_or_, late_not_, late_ite, late_chain, late_call, late_fld, late_met, late_sl, late_lc, late_pop, late_mv, late_callK, late_mkK, late_v, late_nil, get_c0, get_cs, List.set_cons_zero, List.set_cons_succ, stK_n, setKs_nil, setKs_n, Option.bind_some, Option.map_some, Option.some.injEq, exists_eq_left', exists_eq_left, pr_call, pr_fi, List.append_nil, List.cons_append, List.nil_append, List.map_cons, List.map_nil, List.replicate_succ, List.replicate_zero, D.int.injEq, D.bl.injEq, D.lst.injEq, D.str.injEq, D.tup.injEq, pd_sub, pd_eqI, pd_eqB, pd_eqS, pd_neI, pd_neB, pd_neS, pd_ltI, pd_leI, pd_gtI, pd_geI, pd_leS, pd_isN, pd_intI, pd_list, pd_listT, pd_tuple, pd_dct, truth, isNonD, reduceCtorEq, if_true, if_false, reduceIte, Bool.false_eq_true, Bool.not_true, Bool.not_false, List.length_cons, List.length_nil, true_and, and_true, exists_const, exists_eq', List.headD_cons, pd_l0, pd_t0, pd_l1, pd_t1, pd_l2, pd_t2, pd_l3, pd_t3, pd_l4, pd_t4, pd_l5, pd_t5, pd_l6, pd_t6, pd_l7, pd_t7, pd_l8, pd_t8, pd_l9, pd_t9, pd_l10, pd_t10, pd_l11, pd_t11, pd_l12, pd_t12, exists_eq, ok_own, okT_own, late_own, List.getElem?_cons_zero, List.getElem?_cons_succ, nx_ret, wipeE, backE, endQ, Fi.io, outsOf, isM, List.headD_cons, List.tail_cons, back, pickE, pick]
theorem mulI_ok (P : PwT pg ini num gcd ad ra mu rm eq st) {p q c : Nat} (hq : 1 ≤ q) (hp2 : p < 2 ^ 60) (hq2 : q < 2 ^ 60) (hc2 : c < 2 ^ 60) (hK : 2 ^ 120 ≤ KK) : (pg.callN KK (n + 3) mu [.obj 0 [.int (p : Int), .int (q : Int)], .int (c : Int)]).Ok fun d _ => d = pw (p * c) q := by
  have l2 : ∀ x : Nat, x < 2 ^ 60 → x < 2 ^ 100 := fun x h => Nat.lt_trans h (by decide)
  refine callN_ok P.hm rfl ?_
  refine st_go ?_
  simp only [ok_v, ok_k, ok_op, ok_and, ok_or, ok_not, ok_if, ok_chain, ok_call, ok_callK, ok_mkK, ok_fld, ok_met, ok_sl, ok_mv, ok_lc, ok_pop, ok_es0, ok_es, ok_o0, ok_o1, okT_and, okT_or, okT_not, okT_k, okT_op, okT_ite, okT_chain, okT_call, okT_fld, okT_lc, okT_pop, okT_callK, okT_v, okTs0, okTs1, okI_val, okI_rng, okI_rng2, okI_zip, okI_enu, okI_slot, ok_pass, ok_brk, ok_cont, ok_expr, ok_set, ok_par, ok_unp, ok_augA, ok_seti, ok_setf, ok_app, ok_ifS, ok_for, ok_whl, ok_ret, late_k, late_op, late_and_, late_or_, late_not_, late_ite, late_chain, late_call, late_fld, late_met, late_sl, late_lc, late_pop, late_mv, late_callK, late_mkK, late_v, late_nil, get_c0, get_cs, List.set_cons_zero, List.set_cons_succ, stK_n, setKs_nil, setKs_n, Option.bind_some, Option.map_some, Option.some.injEq, exists_eq_left', exists_eq_left, pr_call, pr_fi, List.append_nil, List.cons_append, List.nil_append, List.map_cons, List.map_nil, List.replicate_succ, List.replicate_zero, D.int.injEq, D.bl.injEq, D.lst.injEq, D.str.injEq, D.tup.injEq, pd_sub, pd_eqI, pd_eqB, pd_eqS, pd_neI, pd_neB, pd_neS, pd_ltI, pd_leI, pd_gtI, pd_geI, pd_leS, pd_isN, pd_intI, pd_list, pd_listT, pd_tuple, pd_dct, truth, isNonD, reduceCtorEq, if_true, if_false, reduceIte, Bool.false_eq_true, Bool.not_true, Bool.not_false, List.length_cons, List.length_nil, true_and, and_true, exists_const, exists_eq', List.headD_cons, pd_l0, pd_t0, pd_l1, pd_t1, pd_l2, pd_t2, pd_l3, pd_t3, pd_l4, pd_t4, pd_l5, pd_t5, pd_l6, pd_t6, pd_l7, pd_t7, pd_l8, pd_t8, pd_l9, pd_t9, pd_l10, pd_t10, pd_l11, pd_t11, pd_l12, pd_t12, exists_eq, ok_own, okT_own, late_own, dfMul, isi_int]
  refine st_end0 ?_
  refine st_nx ?_
  simp only [ok_v, ok_k, ok_op, ok_and, ok_or, ok_not, ok_if, ok_chain, ok_call, ok_callK, ok_mkK, ok_fld, ok_met, ok_sl, ok_mv, ok_lc, ok_pop, ok_es0, ok_es, ok_o0, ok_o1, okT_and, okT_or, okT_not, okT_k, okT_op, okT_ite, okT_chain, okT_call, okT_fld, okT_lc, okT_pop, okT_callK, okT_v, okTs0, okTs1, okI_val, okI_rng, okI_rng2, okI_zip, okI_enu, okI_slot, ok_pass, ok_brk, ok_cont, ok_expr, ok_set, ok_par, ok_unp, ok_augA, ok_seti, ok_setf, ok_app, ok_ifS, ok_for, ok_whl, ok_ret, late_k, late_op, late_and_, late_or_, late_not_, late_ite, late_chain, late_call, late_fld, late_met, late_sl, late_lc, late_pop, late_mv, late_callK, late_mkK, late_v, late_nil, get_c0, get_cs, List.set_cons_zero, List.set_cons_succ, stK_n, setKs_nil, setKs_n, Option.bind_some, Option.map_some, Option.some.injEq, exists_eq_left', exists_eq_left, pr_call, pr_fi, List.append_nil, List.cons_append, List.nil_append, List.map_cons, List.map_nil, List.replicate_succ, List.replicate_zero, D.int.injEq, D.bl.injEq, D.lst.injEq, D.str.injEq, D.tup.injEq, pd_sub, pd_eqI, pd_eqB, pd_eqS, pd_neI, pd_neB, pd_neS, pd_ltI, pd_leI, pd_gtI, pd_geI, pd_leS, pd_isN, pd_intI, pd_list, pd_listT, pd_tuple, pd_dct, truth, isNonD, reduceCtorEq, if_true, if_false, reduceIte, Bool.false_eq_true, Bool.not_true, Bool.not_false, List.length_cons, List.length_nil, true_and, and_true, exists_const, exists_eq', List.headD_cons, pd_l0, pd_t0, pd_l1, pd_t1, pd_l2, pd_t2, pd_l3, pd_t3, pd_l4, pd_t4, pd_l5, pd_t5, pd_l6, pd_t6, pd_l7, pd_t7, pd_l8, pd_t8, pd_l9, pd_t9, pd_l10, pd_t10, pd_l11, pd_t11, pd_l12, pd_t12, exists_eq, ok_own, okT_own, late_own]
  refine (num_ok P.hn (d := .int (c : Int)) rfl).imp ?_
  rintro _ _ ⟨rfl, rfl⟩
  simp only [ok_v, ok_k, ok_op, ok_and, ok_or, ok_not, ok_if, ok_chain, ok_call, ok_callK, ok_mkK, ok_fld, ok_met, ok_sl, ok_mv, ok_lc, ok_pop, ok_es0, ok_es, ok_o0, ok_o1, okT_and, okT_or, okT_not, okT_k, okT_op, okT_ite, okT_chain, okT_call, okT_fld, okT_lc, okT_pop, okT_callK, okT_v, okTs0, okTs1, okI_val, okI_rng, okI_rng2, okI_zip, okI_enu, okI_slot, ok_pass, ok_brk, ok_cont, ok_expr, ok_set, ok_par, ok_unp, ok_augA, ok_seti, ok_setf, ok_app, ok_ifS, ok_for, ok_whl, ok_ret, late_k, late_op, late_and_, late_or_, late_not_, late_ite, late_chain, late_call, late_fld, late_met, late_sl, late_lc, late_pop, late_mv, late_callK, late_mkK, late_v, late_nil, get_c0, get_cs, List.set_cons_zero, List.set_cons_succ, stK_n, setKs_nil, setKs_n, Option.bind_some, Option.map_some, Option.some.injEq, exists_eq_left', exists_eq_left, pr_call, pr_fi, List.append_nil, List.cons_append, List.nil_append, List.map_cons, List.map_nil, List.replicate_succ, List.replicate_zero, D.int.injEq, D.bl.injEq, D.lst.injEq, D.str.injEq, D.tup.injEq, pd_sub, pd_eqI, pd_eqB, pd_eqS, pd_neI, pd_neB, pd_neS, pd_ltI, pd_leI, pd_gtI, pd_geI, pd_leS, pd_isN, pd_intI, pd_list, pd_listT, pd_tuple, pd_dct, truth, isNonD, reduceCtorEq, if_true, if_false, reduceIte, Bool.false_eq_true, Bool.not_true, Bool.not_false, List.length_cons, List.length_nil, true_and, and_true, exists_const, exists_eq', List.headD_cons, pd_l0, pd_t0, pd_l1, pd_t1, pd_l2, pd_t2, pd_l3, pd_t3, pd_l4, pd_t4, pd_l5, pd_t5, pd_l6, pd_t6, pd_l7, pd_t7, pd_l8, pd_t8, pd_l9, pd_t9, pd_l10, pd_t10, pd_l11, pd_t11, pd_l12, pd_t12, exists_eq, ok_own, okT_own, late_own, List.getElem?_cons_zero, List.getElem?_cons_succ, nx_ret, wipeE, backE, endQ, Fi.io, outsOf, isM, List.headD_cons, List.tail_cons, back, pickE, pick, fiOf_eq P.hn, fiNum, numB, decide_eq_true (Int.natCast_nonneg c)]
  refine st_go ?_
  simp only [ok_v, ok_k, ok_op, ok_and, ok_or, ok_not, ok_if, ok_chain, ok_call, ok_callK, ok_mkK, ok_fld, ok_met, ok_sl, ok_mv, ok_lc, ok_pop, ok_es0, ok_es, ok_o0, ok_o1, okT_and, okT_or, okT_not, okT_k, okT_op, okT_ite, okT_chain, okT_call, okT_fld, okT_lc, okT_pop, okT_callK, okT_v, okTs0, okTs1, okI_val, okI_rng, okI_rng2, okI_zip, okI_enu, okI_slot, ok_pass, ok_brk, ok_cont, ok_expr, ok_set, ok_par, ok_unp, ok_augA, ok_seti, ok_setf, ok_app, ok_ifS, ok_for, ok_whl, ok_ret, late_k, late_op, late_and_, late_or_, late_not_, late_ite, late_chain, late_call, late_fld, late_met, late_sl, late_lc, late_pop, late_mv, late_callK, late_mkK, late_v, late_nil, get_c0, get_cs, List.set_cons_zero, List.set_cons_succ, stK_n, setKs_nil, setKs_n, Option.bind_some, Option.map_some, Option.some.injEq, exists_eq_left', exists_eq_left, pr_call, pr_fi, List.append_nil, List.cons_append, List.nil_append, List.map_cons, List.map_nil, List.replicate_succ, List.replicate_zero, D.int.injEq, D.bl.injEq, D.lst.injEq, D.str.injEq, D.tup.injEq, pd_sub, pd_eqI, pd_eqB, pd_eqS, pd_neI, pd_neB, pd_neS, pd_ltI, pd_leI, pd_gtI, pd_geI, pd_leS, pd_isN, pd_intI, pd_list, pd_listT, pd_tuple, pd_dct, truth, isNonD, reduceCtorEq, if_true, if_false, reduceIte, Bool.false_eq_true, Bool.not_true, Bool.not_false, List.length_cons, List.length_nil, true_and, and_true, exists_const, exists_eq', List.headD_cons, pd_l0, pd_t0, pd_l1, pd_t1, pd_l2, pd_t2, pd_l3, pd_t3, pd_l4, pd_t4, pd_l5, pd_t5, pd_l6, pd_t6, pd_l7, pd_t7, pd_l8, pd_t8, pd_l9, pd_t9, pd_l10, pd_t10, pd_l11, pd_t11, pd_l12, pd_t12, exists_eq, ok_own, okT_own, late_own, ex_obj, pr_flds, P.fl, lk_top, lk_bot, mul_nat (l2 _ hp2) (l2 _ hc2), sh_eq P.s0, List.getElem?_cons_zero, List.getElem?_cons_succ, nx_ret, wipeE, backE, endQ, Fi.io, outsOf, isM, List.headD_cons, List.tail_cons, back, pickE, pick]
  refine (mk_ok P hq (Nat.lt_of_lt_of_le (Nat.lt_trans hq2 (by decide)) hK) (Nat.lt_trans hq2 (by decide))).imp ?_
  rintro _ _ ⟨rfl, rfl⟩
  refine ⟨rfl, _, _, rfl, ?_⟩
  simp only [ok_v, ok_k, ok_op, ok_and, ok_or, ok_not, ok_if, ok_chain, ok_call, ok_callK, ok_mkK, ok_fld, ok_met, ok_sl, ok_mv, ok_lc, ok_pop, ok_es0, ok_es, ok_o0, ok_o1, okT_and, okT_or, okT_not, okT_k, okT_op, okT_ite, okT_chain, okT_call, okT_fld, okT_lc, okT_pop, okT_callK, okT_v, okTs0, okTs1, okI_val, okI_rng, okI_rng2, okI_zip, okI_enu, okI_slot, ok_pass, ok_brk, ok_cont, ok_expr, ok_set, ok_par, ok_unp, ok_augA, ok_seti, ok_setf, ok_app, ok_ifS, ok_for, ok_whl, ok_ret, late_k, late_op, late_and_, late_or_, late_not_, late_ite, late_chain, late_call, late_fld, late_met, late_sl, late_lc, late_pop, late_mv, late_callK, late_mkK, late_v, late_nil, get_c0, get_cs, List.set_cons_zero, List.set_cons_succ, stK_n, setKs_nil, setKs_n, Option.bind_some, Option.map_some, Option.some.injEq, exists_eq_left', exists_eq_left, pr_call, pr_fi, List.append_nil, List.cons_append, List.nil_append, List.map_cons, List.map_nil, List.replicate_succ, List.replicate_zero, D.int.injEq, D.bl.injEq, D.lst.injEq, D.str.injEq, D.tup.injEq, pd_sub, pd_eqI, pd_eqB, pd_eqS, pd_neI, pd_neB, pd_neS, pd_ltI, pd_leI, pd_gtI, pd_geI, pd_leS, pd_isN, pd_intI, pd_list, pd_listT, pd_tuple, pd_dct, truth, isNonD, reduceCtorEq, if_true, if_false, reduceIte, Bool.false_eq_true, Bool.not_true, Bool.not_false, List.length_cons, List.length_nil, true_and, and_true, exists_const, exists_eq', List.headD_cons, pd_l0, pd_t0, pd_l1, pd_t1, pd_l2, pd_t2, pd_l3, pd_t3, pd_l4, pd_t4, pd_l5, pd_t5, pd_l6, pd_t6, pd_l7, pd_t7, pd_l8, pd_t8, pd_l9, pd_t9, pd_l10, pd_t10, pd_l11, pd_t11, pd_l12, pd_t12, exists_eq, ok_own, okT_own, late_own, List.getElem?_cons_zero, List.getElem?_cons_succ, nx_ret, wipeE, backE, endQ, Fi.io, outsOf, isM, List.headD_cons, List.tail_cons, back, pickE, pick]
theorem eq_ok (P : PwT pg ini num gcd ad ra mu rm eq st) {p q : Int} : (pg.callN KK (n + 1) eq [.obj 0 [.int p, .int q], .obj 0 [.int p, .int q]]).Ok fun d _ => d = .bl true := by
  refine callN_ok P.he rfl ?_
  refine st_go ?_
  simp only [ok_v, ok_k, ok_op, ok_and, ok_or, ok_not, ok_if, ok_chain, ok_call, ok_callK, ok_mkK, ok_fld, ok_met, ok_sl, ok_mv, ok_lc, ok_pop, ok_es0, ok_es, ok_o0, ok_o1, okT_and, okT_or, okT_not, okT_k, okT_op, okT_ite, okT_chain, okT_call, okT_fld, okT_lc, okT_pop, okT_callK, okT_v, okTs0, okTs1, okI_val, okI_rng, okI_rng2, okI_zip, okI_enu, okI_slot, ok_pass, ok_brk, ok_cont, ok_expr, ok_set, ok_par, ok_unp, ok_augA, ok_seti, ok_setf, ok_app, ok_ifS, ok_for, ok_whl, ok_ret, late_k, late_op, late_and_, late_or_, late_not_, late_ite, late_chain, late_call, late_fld, late_met, late_sl, late_lc, late_pop, late_mv, late_callK, late_mkK, late_v, late_nil, get_c0, get_cs, List.set_cons_zero, List.set_cons_succ, stK_n, setKs_nil, setKs_n, Option.bind_some, Option.map_some, Option.some.injEq, exists_eq_left', exists_eq_left, pr_call, pr_fi, List.append_nil, List.cons_append, List.nil_append, List.map_cons, List.map_nil, List.replicate_succ, List.replicate_zero, D.int.injEq, D.bl.injEq, D.lst.injEq, D.str.injEq, D.tup.injEq, pd_sub, pd_eqI, pd_eqB, pd_eqS, pd_neI, pd_neB, pd_neS, pd_ltI, pd_leI, pd_gtI, pd_geI, pd_leS, pd_isN, pd_intI, pd_list, pd_listT, pd_tuple, pd_dct, truth, isNonD, reduceCtorEq, if_true, if_false, reduceIte, Bool.false_eq_true, Bool.not_true, Bool.not_false, List.length_cons, List.length_nil, true_and, and_true, exists_const, exists_eq', List.headD_cons, pd_l0, pd_t0, pd_l1, pd_t1, pd_l2, pd_t2, pd_l3, pd_t3, pd_l4, pd_t4, pd_l5, pd_t5, pd_l6, pd_t6, pd_l7, pd_t7, pd_l8, pd_t8, pd_l9, pd_t9, pd_l10, pd_t10, pd_l11, pd_t11, pd_l12, pd_t12, exists_eq, ok_own, okT_own, late_own, dfEq, isi_obj]
  refine st_end0 ?_
  refine st_nx ?_
  simp only [ok_v, ok_k, ok_op, ok_and, ok_or, ok_not, ok_if, ok_chain, ok_call, ok_callK, ok_mkK, ok_fld, ok_met, ok_sl, ok_mv, ok_lc, ok_pop, ok_es0, ok_es, ok_o0, ok_o1, okT_and, okT_or, okT_not, okT_k, okT_op, okT_ite, okT_chain, okT_call, okT_fld, okT_lc, okT_pop, okT_callK, okT_v, okTs0, okTs1, okI_val, okI_rng, okI_rng2, okI_zip, okI_enu, okI_slot, ok_pass, ok_brk, ok_cont, ok_expr, ok_set, ok_par, ok_unp, ok_augA, ok_seti, ok_setf, ok_app, ok_ifS, ok_for, ok_whl, ok_ret, late_k, late_op, late_and_, late_or_, late_not_, late_ite, late_chain, late_call, late_fld, late_met, late_sl, late_lc, late_pop, late_mv, late_callK, late_mkK, late_v, late_nil, get_c0, get_cs, List.set_cons_zero, List.set_cons_succ, stK_n, setKs_nil, setKs_n, Option.bind_some, Option.map_some, Option.some.injEq, exists_eq_left', exists_eq_left, pr_call, pr_fi, List.append_nil, List.cons_append, List.nil_append, List.map_cons, List.map_nil, List.replicate_succ, List.replicate_zero, D.int.injEq, D.bl.injEq, D.lst.injEq, D.str.injEq, D.tup.injEq, pd_sub, pd_eqI, pd_eqB, pd_eqS, pd_neI, pd_neB, pd_neS, pd_ltI, pd_leI, pd_gtI, pd_geI, pd_leS, pd_isN, pd_intI, pd_list, pd_listT, pd_tuple, pd_dct, truth, isNonD, reduceCtorEq, if_true, if_false, reduceIte, Bool.false_eq_true, Bool.not_true, Bool.not_false, List.length_cons, List.length_nil, true_and, and_true, exists_const, exists_eq', List.headD_cons, pd_l0, pd_t0, pd_l1, pd_t1, pd_l2, pd_t2, pd_l3, pd_t3, pd_l4, pd_t4, pd_l5, pd_t5, pd_l6, pd_t6, pd_l7, pd_t7, pd_l8, pd_t8, pd_l9, pd_t9, pd_l10, pd_t10, pd_l11, pd_t11, pd_l12, pd_t12, exists_eq, ok_own, okT_own, late_own, ex_obj, pr_flds, P.fl, lk_top, lk_bot, beq_self_eq_true, List.getElem?_cons_zero, List.getElem?_cons_succ, nx_ret, wipeE, backE, endQ, Fi.io, outsOf, isM, List.headD_cons, List.tail_cons, back, pickE, pick]
/-! ### the operators -/
theorem oF_a (P : PwT pg ini num gcd ad ra mu rm eq st) {c : Nat → List D → C} {fs gs : List D} : ownF (pg.prOf c).dun (pg.prOf c).sta .add [.obj 0 fs, .obj 0 gs] = some (ad, [.obj 0 fs, .obj 0 gs]) := by
  show (if 0 = 0 then ((pg.meths.getD 0 []).lookup ("__add__" : Str)).map _ else none) = _
  rw [if_pos rfl, P.d1]; rfl
theorem oF_ai (P : PwT pg ini num gcd ad ra mu rm eq st) {c : Nat → List D → C} {fs : List D} {i : Int} : ownF (pg.prOf c).dun (pg.prOf c).sta .add [.obj 0 fs, .int i] = some (ad, [.obj 0 fs, .int i]) := by
  show ((pg.meths.getD 0 []).lookup ("__radd__" : Str)).bind (fun _ => ((pg.meths.getD 0 []).lookup ("__add__" : Str)).map _) = _
  rw [P.d2, P.d1]; rfl
theorem oF_ia (P : PwT pg ini num gcd ad ra mu rm eq st) {c : Nat → List D → C} {fs : List D} {i : Int} : ownF (pg.prOf c).dun (pg.prOf c).sta .add [.int i, .obj 0 fs] = some (ra, [.obj 0 fs, .int i]) := by
  show ((pg.meths.getD 0 []).lookup ("__add__" : Str)).bind (fun _ => ((pg.meths.getD 0 []).lookup ("__radd__" : Str)).map _) = _
  rw [P.d1, P.d2]; rfl
theorem oF_m (P : PwT pg ini num gcd ad ra mu rm eq st) {c : Nat → List D → C} {fs gs : List D} : ownF (pg.prOf c).dun (pg.prOf c).sta .mul [.obj 0 fs, .obj 0 gs] = some (mu, [.obj 0 fs, .obj 0 gs]) := by
  show (if 0 = 0 then ((pg.meths.getD 0 []).lookup ("__mul__" : Str)).map _ else none) = _
  rw [if_pos rfl, P.d3]; rfl
theorem oF_mi (P : PwT pg ini num gcd ad ra mu rm eq st) {c : Nat → List D → C} {fs : List D} {i : Int} : ownF (pg.prOf c).dun (pg.prOf c).sta .mul [.obj 0 fs, .int i] = some (mu, [.obj 0 fs, .int i]) := by
  show ((pg.meths.getD 0 []).lookup ("__rmul__" : Str)).bind (fun _ => ((pg.meths.getD 0 []).lookup ("__mul__" : Str)).map _) = _
  rw [P.d4, P.d3]; rfl
theorem oF_im (P : PwT pg ini num gcd ad ra mu rm eq st) {c : Nat → List D → C} {fs : List D} {i : Int} : ownF (pg.prOf c).dun (pg.prOf c).sta .mul [.int i, .obj 0 fs] = some (rm, [.obj 0 fs, .int i]) := by
  show ((pg.meths.getD 0 []).lookup ("__mul__" : Str)).bind (fun _ => ((pg.meths.getD 0 []).lookup ("__rmul__" : Str)).map _) = _
  rw [P.d3, P.d4]; rfl
theorem oF_e (P : PwT pg ini num gcd ad ra mu rm eq st) {c : Nat → List D → C} {fs gs : List D} : ownF (pg.prOf c).dun (pg.prOf c).sta .eq [.obj 0 fs, .obj 0 gs] = some (eq, [.obj 0 fs, .obj 0 gs]) := by
  show (if 0 = 0 then ((pg.meths.getD 0 []).lookup ("__eq__" : Str)).map _ else none) = _
  rw [if_pos rfl, P.d5]; rfl
theorem oF_n (P : PwT pg ini num gcd ad ra mu rm eq st) {c : Nat → List D → C} {fs gs : List D} : ownF (pg.prOf c).dun (pg.prOf c).sta .ne [.obj 0 fs, .obj 0 gs] = some (eq, [.obj 0 fs, .obj 0 gs]) := by
  show (if 0 = 0 then ((pg.meths.getD 0 []).lookup ("__eq__" : Str)).map _ else none) = _
  rw [if_pos rfl, P.d5]; rfl
theorem pO_add (P : PwT pg ini num gcd ad ra mu rm eq st) (hK : 2 ^ 120 ≤ KK) {t b u v : Nat} (hb : 1 ≤ b) (hv : 1 ≤ v) (ht2 : t < 2 ^ 60) (hb2 : b < 2 ^ 60) (hu2 : u < 2 ^ 60) (hv2 : v < 2 ^ 60) : (pg.prOf (pg.callN KK (n + 3))).ownD .add [pw t b, pw u v] = some (pw (t * v + u * b) (b * v)) := by
  obtain ⟨p, q, e1, l1⟩ := pw_lo (t := t) hb
  obtain ⟨r, s, e2, l2⟩ := pw_lo (t := u) hv
  rw [e1, e2, ← lo_add l1 l2]
  exact own_of (by decide) (oF_a P) (add_ok P l1.q1 l2.q1 (Nat.lt_of_le_of_lt l1.pt ht2) (Nat.lt_of_le_of_lt l1.qb hb2) (Nat.lt_of_le_of_lt l2.pt hu2) (Nat.lt_of_le_of_lt l2.qb hv2) hK) rfl
theorem o_mul' (P : PwT pg ini num gcd ad ra mu rm eq st) (hK : 2 ^ 120 ≤ KK) {t b u v : Nat} (hb : 1 ≤ b) (hv : 1 ≤ v) (ht2 : t < 2 ^ 60) (hb2 : b < 2 ^ 60) (hu2 : u < 2 ^ 60) (hv2 : v < 2 ^ 60) : (pg.prOf (pg.callN KK (n + 3))).ownD .mul [pw t b, pw u v] = some (pw (t * u) (b * v)) := by
  obtain ⟨p, q, e1, l1⟩ := pw_lo (t := t) hb
  obtain ⟨r, s, e2, l2⟩ := pw_lo (t := u) hv
  rw [e1, e2, ← lo_mul l1 l2]
  exact own_of (by decide) (oF_m P) (mul_ok P l1.q1 l2.q1 (Nat.lt_of_le_of_lt l1.pt ht2) (Nat.lt_of_le_of_lt l1.qb hb2) (Nat.lt_of_le_of_lt l2.pt hu2) (Nat.lt_of_le_of_lt l2.qb hv2) hK) rfl
theorem o_addI (P : PwT pg ini num gcd ad ra mu rm eq st) (hK : 2 ^ 120 ≤ KK) {t b c : Nat} (hb : 1 ≤ b) (ht2 : t < 2 ^ 60) (hb2 : b < 2 ^ 60) (hc2 : c < 2 ^ 60) : (pg.prOf (pg.callN KK (n + 3))).ownD .add [pw t b, .int (c : Int)] = some (pw (t + c * b) b) := by
  obtain ⟨p, q, e1, l1⟩ := pw_lo (t := t) hb
  rw [e1, ← lo_addI l1]
  exact own_of (by decide) (oF_ai P) (addI_ok P l1.q1 (Nat.lt_of_le_of_lt l1.pt ht2) (Nat.lt_of_le_of_lt l1.qb hb2) hc2 hK) rfl
theorem o_mulI (P : PwT pg ini num gcd ad ra mu rm eq st) (hK : 2 ^ 120 ≤ KK) {t b c : Nat} (hb : 1 ≤ b) (ht2 : t < 2 ^ 60) (hb2 : b < 2 ^ 60) (hc2 : c < 2 ^ 60) : (pg.prOf (pg.callN KK (n + 3))).ownD .mul [pw t b, .int (c : Int)] = some (pw (t * c) b) := by
  obtain ⟨p, q, e1, l1⟩ := pw_lo (t := t) hb
  rw [e1, ← lo_mulI l1]
  exact own_of (by decide) (oF_mi P) (mulI_ok P l1.q1 (Nat.lt_of_le_of_lt l1.pt ht2) (Nat.lt_of_le_of_lt l1.qb hb2) hc2 hK) rfl
theorem o_raddI (P : PwT pg ini num gcd ad ra mu rm eq st) (hK : 2 ^ 120 ≤ KK) {t b c : Nat} (hb : 1 ≤ b) (ht2 : t < 2 ^ 60) (hb2 : b < 2 ^ 60) (hc2 : c < 2 ^ 60) : (pg.prOf (pg.callN KK (n + 4))).ownD .add [.int (c : Int), pw t b] = some (pw (t + c * b) b) := by
  refine own_of (as := [pw t b, .int (c : Int)]) (f := ra) (r := pw (t + c * b) b) (by decide) (oF_ia P) ?_ rfl
  refine callN_ok P.hra rfl ?_
  refine st_go ?_
  simp only [ok_v, ok_k, ok_op, ok_and, ok_or, ok_not, ok_if, ok_chain, ok_call, ok_callK, ok_mkK, ok_fld, ok_met, ok_sl, ok_mv, ok_lc, ok_pop, ok_es0, ok_es, ok_o0, ok_o1, okT_and, okT_or, okT_not, okT_k, okT_op, okT_ite, okT_chain, okT_call, okT_fld, okT_lc, okT_pop, okT_callK, okT_v, okTs0, okTs1, okI_val, okI_rng, okI_rng2, okI_zip, okI_enu, okI_slot, ok_pass, ok_brk, ok_cont, ok_expr, ok_set, ok_par, ok_unp, ok_augA, ok_seti, ok_setf, ok_app, ok_ifS, ok_for, ok_whl, ok_ret, late_k, late_op, late_and_, late_or_, late_not_, late_ite, late_chain, late_call, late_fld, late_met, late_sl, late_lc, late_pop, late_mv, late_callK, late_mkK, late_v, late_nil, get_c0, get_cs, List.set_cons_zero, List.set_cons_succ, stK_n, setKs_nil, setKs_n, Option.bind_some, Option.map_some, Option.some.injEq, exists_eq_left', exists_eq_left, pr_call, pr_fi, List.append_nil, List.cons_append, List.nil_append, List.map_cons, List.map_nil, List.replicate_succ, List.replicate_zero, D.int.injEq, D.bl.injEq, D.lst.injEq, D.str.injEq, D.tup.injEq, pd_sub, pd_eqI, pd_eqB, pd_eqS, pd_neI, pd_neB, pd_neS, pd_ltI, pd_leI, pd_gtI, pd_geI, pd_leS, pd_isN, pd_intI, pd_list, pd_listT, pd_tuple, pd_dct, truth, isNonD, reduceCtorEq, if_true, if_false, reduceIte, Bool.false_eq_true, Bool.not_true, Bool.not_false, List.length_cons, List.length_nil, true_and, and_true, exists_const, exists_eq', List.headD_cons, pd_l0, pd_t0, pd_l1, pd_t1, pd_l2, pd_t2, pd_l3, pd_t3, pd_l4, pd_t4, pd_l5, pd_t5, pd_l6, pd_t6, pd_l7, pd_t7, pd_l8, pd_t8, pd_l9, pd_t9, pd_l10, pd_t10, pd_l11, pd_t11, pd_l12, pd_t12, exists_eq, ok_own, okT_own, late_own, dfRadd]
  refine ⟨_, o_addI P hK hb ht2 hb2 hc2, ?_⟩
  simp only [ok_v, ok_k, ok_op, ok_and, ok_or, ok_not, ok_if, ok_chain, ok_call, ok_callK, ok_mkK, ok_fld, ok_met, ok_sl, ok_mv, ok_lc, ok_pop, ok_es0, ok_es, ok_o0, ok_o1, okT_and, okT_or, okT_not, okT_k, okT_op, okT_ite, okT_chain, okT_call, okT_fld, okT_lc, okT_pop, okT_callK, okT_v, okTs0, okTs1, okI_val, okI_rng, okI_rng2, okI_zip, okI_enu, okI_slot, ok_pass, ok_brk, ok_cont, ok_expr, ok_set, ok_par, ok_unp, ok_augA, ok_seti, ok_setf, ok_app, ok_ifS, ok_for, ok_whl, ok_ret, late_k, late_op, late_and_, late_or_, late_not_, late_ite, late_chain, late_call, late_fld, late_met, late_sl, late_lc, late_pop, late_mv, late_callK, late_mkK, late_v, late_nil, get_c0, get_cs, List.set_cons_zero, List.set_cons_succ, stK_n, setKs_nil, setKs_n, Option.bind_some, Option.map_some, Option.some.injEq, exists_eq_left', exists_eq_left, pr_call, pr_fi, List.append_nil, List.cons_append, List.nil_append, List.map_cons, List.map_nil, List.replicate_succ, List.replicate_zero, D.int.injEq, D.bl.injEq, D.lst.injEq, D.str.injEq, D.tup.injEq, pd_sub, pd_eqI, pd_eqB, pd_eqS, pd_neI, pd_neB, pd_neS, pd_ltI, pd_leI, pd_gtI, pd_geI, pd_leS, pd_isN, pd_intI, pd_list, pd_listT, pd_tuple, pd_dct, truth, isNonD, reduceCtorEq, if_true, if_false, reduceIte, Bool.false_eq_true, Bool.not_true, Bool.not_false, List.length_cons, List.length_nil, true_and, and_true, exists_const, exists_eq', List.headD_cons, pd_l0, pd_t0, pd_l1, pd_t1, pd_l2, pd_t2, pd_l3, pd_t3, pd_l4, pd_t4, pd_l5, pd_t5, pd_l6, pd_t6, pd_l7, pd_t7, pd_l8, pd_t8, pd_l9, pd_t9, pd_l10, pd_t10, pd_l11, pd_t11, pd_l12, pd_t12, exists_eq, ok_own, okT_own, late_own, List.getElem?_cons_zero, List.getElem?_cons_succ, nx_ret, wipeE, backE, endQ, Fi.io, outsOf, isM, List.headD_cons, List.tail_cons, back, pickE, pick]
theorem o_rmulI (P : PwT pg ini num gcd ad ra mu rm eq st) (hK : 2 ^ 120 ≤ KK) {t b c : Nat} (hb : 1 ≤ b) (ht2 : t < 2 ^ 60) (hb2 : b < 2 ^ 60) (hc2 : c < 2 ^ 60) : (pg.prOf (pg.callN KK (n + 4))).ownD .mul [.int (c : Int), pw t b] = some (pw (t * c) b) := by
  refine own_of (as := [pw t b, .int (c : Int)]) (f := rm) (r := pw (t * c) b) (by decide) (oF_im P) ?_ rfl
  refine callN_ok P.hrm rfl ?_
  refine st_go ?_
  simp only [ok_v, ok_k, ok_op, ok_and, ok_or, ok_not, ok_if, ok_chain, ok_call, ok_callK, ok_mkK, ok_fld, ok_met, ok_sl, ok_mv, ok_lc, ok_pop, ok_es0, ok_es, ok_o0, ok_o1, okT_and, okT_or, okT_not, okT_k, okT_op, okT_ite, okT_chain, okT_call, okT_fld, okT_lc, okT_pop, okT_callK, okT_v, okTs0, okTs1, okI_val, okI_rng, okI_rng2, okI_zip, okI_enu, okI_slot, ok_pass, ok_brk, ok_cont, ok_expr, ok_set, ok_par, ok_unp, ok_augA, ok_seti, ok_setf, ok_app, ok_ifS, ok_for, ok_whl, ok_ret, late_k, late_op, late_and_, late_or_, late_not_, late_ite, late_chain, late_call, late_fld, late_met, late_sl, late_lc, late_pop, late_mv, late_callK, late_mkK, late_v, late_nil, get_c0, get_cs, List.set_cons_zero, List.set_cons_succ, stK_n, setKs_nil, setKs_n, Option.bind_some, Option.map_some, Option.some.injEq, exists_eq_left', exists_eq_left, pr_call, pr_fi, List.append_nil, List.cons_append, List.nil_append, List.map_cons, List.map_nil, List.replicate_succ, List.replicate_zero, D.int.injEq, D.bl.injEq, D.lst.injEq, D.str.injEq, D.tup.injEq, pd_sub, pd_eqI, pd_eqB, pd_eqS, pd_neI, pd_neB, pd_neS, pd_ltI, pd_leI, pd_gtI, pd_geI, pd_leS, pd_isN, pd_intI, pd_list, pd_listT, pd_tuple, pd_dct, truth, isNonD, reduceCtorEq, if_true, if_false, reduceIte, Bool.false_eq_true, Bool.not_true, Bool.not_false, List.length_cons, List.length_nil, true_and, and_true, exists_const, exists_eq', List.headD_cons, pd_l0, pd_t0, pd_l1, pd_t1, pd_l2, pd_t2, pd_l3, pd_t3, pd_l4, pd_t4, pd_l5, pd_t5, pd_l6, pd_t6, pd_l7, pd_t7, pd_l8, pd_t8, pd_l9, pd_t9, pd_l10, pd_t10, pd_l11, pd_t11, pd_l12, pd_t12, exists_eq, ok_own, okT_own, late_own, dfRmul]
  refine ⟨_, o_mulI P hK hb ht2 hb2 hc2, ?_⟩
  simp only [ok_v, ok_k, ok_op, ok_and, ok_or, ok_not, ok_if, ok_chain, ok_call, ok_callK, ok_mkK, ok_fld, ok_met, ok_sl, ok_mv, ok_lc, ok_pop, ok_es0, ok_es, ok_o0, ok_o1, okT_and, okT_or, okT_not, okT_k, okT_op, okT_ite, okT_chain, okT_call, okT_fld, okT_lc, okT_pop, okT_callK, okT_v, okTs0, okTs1, okI_val, okI_rng, okI_rng2, okI_zip, okI_enu, okI_slot, ok_pass, ok_brk, ok_cont, ok_expr, ok_set, ok_par, ok_unp, ok_augA, ok_seti, ok_setf, ok_app, ok_ifS, ok_for, ok_whl, ok_ret, late_k, late_op, late_and_, late_or_, late_not_, late_ite, late_chain, late_call, late_fld, late_met, late_sl, late_lc, late_pop, late_mv, late_callK, late_mkK, late_v, late_nil, get_c0, get_cs, List.set_cons_zero, List.set_cons_succ, stK_n, setKs_nil, setKs_n, Option.bind_some, Option.map_some, Option.some.injEq, exists_eq_left', exists_eq_left, pr_call, pr_fi, List.append_nil, List.cons_append, List.nil_append, List.map_cons, List.map_nil, List.replicate_succ, List.replicate_zero, D.int.injEq, D.bl.injEq, D.lst.injEq, D.str.injEq, D.tup.injEq, pd_sub, pd_eqI, pd_eqB, pd_eqS, pd_neI, pd_neB, pd_neS, pd_ltI, pd_leI, pd_gtI, pd_geI, pd_leS, pd_isN, pd_intI, pd_list, pd_listT, pd_tuple, pd_dct, truth, isNonD, reduceCtorEq, if_true, if_false, reduceIte, Bool.false_eq_true, Bool.not_true, Bool.not_false, List.length_cons, List.length_nil, true_and, and_true, exists_const, exists_eq', List.headD_cons, pd_l0, pd_t0, pd_l1, pd_t1, pd_l2, pd_t2, pd_l3, pd_t3, pd_l4, pd_t4, pd_l5, pd_t5, pd_l6, pd_t6, pd_l7, pd_t7, pd_l8, pd_t8, pd_l9, pd_t9, pd_l10, pd_t10, pd_l11, pd_t11, pd_l12, pd_t12, exists_eq, ok_own, okT_own, late_own, List.getElem?_cons_zero, List.getElem?_cons_succ, nx_ret, wipeE, backE, endQ, Fi.io, outsOf, isM, List.headD_cons, List.tail_cons, back, pickE, pick]
theorem pO_eq (P : PwT pg ini num gcd ad ra mu rm eq st) {t b : Nat} : (pg.prOf (pg.callN KK (n + 1))).ownD .eq [pw t b, pw t b] = some (.bl true) :=
  own_of (by decide) (oF_e P) (eq_ok P) rfl
theorem pO_ne (P : PwT pg ini num gcd ad ra mu rm eq st) {t b : Nat} : (pg.prOf (pg.callN KK (n + 1))).ownD .ne [pw t b, pw t b] = some (.bl false) :=
  own_of (by decide) (oF_n P) (eq_ok P) rfl
theorem o_eqs (P : PwT pg ini num gcd ad ra mu rm eq st) : ∀ {xs : List D}, (∀ x ∈ xs, ∃ t b, x = pw t b) → (pg.prOf (pg.callN KK (n + 1))).eqs xs xs = true
  | [], _ => rfl
  | x :: xs, h => by
    obtain ⟨t, b, rfl⟩ := h x (List.mem_cons_self ..)
    have ih := o_eqs P (xs := xs) fun y hy => h y (List.mem_cons_of_mem _ hy)
    obtain ⟨d, o, h1, h2⟩ := eq_ok (KK := KK) (n := n) P (p := ((t / Nat.gcd t b : Nat) : Int)) (q := ((b / Nat.gcd t b : Nat) : Int))
    subst h2
    unfold pw
    simp only [Pr.eqs, beq_self_eq_true, Bool.true_and, Bool.and_eq_true]
    refine ⟨?_, ih⟩
    rw [show (pg.prOf (pg.callN KK (n + 1))).dun 0 ("__eq__" : Str) = some eq from P.d5]
    simp only
    rw [show (pg.prOf (pg.callN KK (n + 1))).call eq [.obj 0 [.int ((t / Nat.gcd t b : Nat) : Int), .int ((b / Nat.gcd t b : Nat) : Int)], .obj 0 [.int ((t / Nat.gcd t b : Nat) : Int), .int ((b / Nat.gcd t b : Nat) : Int)]] = .ok (.bl true) o from h1]
end
end TE
/-! Tp8: the total of powers. -/
namespace TE
open PySem L2
theorem lo_two {t b p q p' q' : Nat} (h : D.obj 0 [.int (p : Int), .int (q : Int)] = .obj 0 [.int (p' : Int), .int (q' : Int)]) : p = p' ∧ q = q' := by
  simp only [D.obj.injEq, List.cons.injEq, D.int.injEq, Int.natCast_inj, true_and, and_true] at h
  exact h
theorem pw_congr {x y t b u v a c : Nat} (hy : 1 ≤ y) (hb : 1 ≤ b) (hv : 1 ≤ v) (hc : 1 ≤ c) (h1 : pw x y = pw t b) (h2 : pw u v = pw a c) : pw (x * v + u * y) (y * v) = pw (t * c + a * b) (b * c) := by
  obtain ⟨p, q, e1, l1⟩ := pw_lo (t := x) hy
  obtain ⟨p', q', e1', l1'⟩ := pw_lo (t := t) hb
  obtain ⟨r, s, e2, l2⟩ := pw_lo (t := u) hv
  obtain ⟨r', s', e2', l2'⟩ := pw_lo (t := a) hc
  rw [e1, e1'] at h1
  rw [e2, e2'] at h2
  obtain ⟨rfl, rfl⟩ := lo_two (t := 0) (b := 0) h1
  obtain ⟨rfl, rfl⟩ := lo_two (t := 0) (b := 0) h2
  rw [← lo_add l1 l2, ← lo_add l1' l2']
theorem pw_self {t b r s : Nat} (l : Lo t b r s) : pw r s = pw t b := by
  obtain ⟨g, hg, rfl, rfl⟩ := l.ex
  rw [pw_scale hg]
/-- the sum of fractions, not in lowest terms -/
def fo : List (Nat × Nat) → Nat × Nat → Nat × Nat
  | [], a => a
  | r :: rs, a => fo rs (a.1 * r.2 + r.1 * a.2, a.2 * r.2)
def pwOf (r : Nat × Nat) : D := pw r.1 r.2
section
variable {pg : Pg} {KK n i ini num gcd ad ra mu rm eq st : Nat}
theorem total_ok (P : PwT pg ini num gcd ad ra mu rm eq st) (h : pg.defs[i]? = some dfTotal) (hK : 2 ^ 120 ≤ KK) {rows : List (Nat × Nat)} (hr : ∀ r ∈ rows, r.1 ≤ 30 ∧ 1 ≤ r.2 ∧ r.2 ≤ 30) (hl : rows.length ≤ 5) :
    (pg.callN KK (n + 3) i [.tup (rows.map pwOf)]).Ok fun d _ => d = pwOf (fo rows (0, 1)) := by
  have p30 : ∀ k, k ≤ 5 → k * 30 ^ k < 2 ^ 60 ∧ 30 ^ k < 2 ^ 60 := fun k hk => by
    have : k = 0 ∨ k = 1 ∨ k = 2 ∨ k = 3 ∨ k = 4 ∨ k = 5 := by omega
    rcases this with rfl | rfl | rfl | rfl | rfl | rfl <;> decide
  refine callN_ok h rfl ?_
  refine st_go ?_
  simp only [ok_v, ok_k, ok_op, ok_and, ok_or, ok_not, ok_if, ok_chain, ok_call, ok_callK, ok_mkK, ok_fld, ok_met, ok_sl, ok_mv, ok_lc, ok_pop, ok_es0, ok_es, ok_o0, ok_o1, okT_and, okT_or, okT_not, okT_k, okT_op, okT_ite, okT_chain, okT_call, okT_fld, okT_lc, okT_pop, okT_callK, okT_v, okTs0, okTs1, okI_val, okI_rng, okI_rng2, okI_zip, okI_enu, okI_slot, ok_pass, ok_brk, ok_cont, ok_expr, ok_set, ok_par, ok_unp, ok_augA, ok_seti, ok_setf, ok_app, ok_ifS, ok_for, ok_whl, ok_ret, late_k, late_op, late_and_, late_or_, late_not_, late_ite, late_chain, late_call, late_fld, late_met, late_sl, late_lc, late_pop, late_mv, late_callK, late_mkK, late_v, late_nil, get_c0, get_cs, List.set_cons_zero, List.set_cons_succ, stK_n, setKs_nil, setKs_n, Option.bind_some, Option.map_some, Option.some.injEq, exists_eq_left', exists_eq_left, pr_call, pr_fi, List.append_nil, List.cons_append, List.nil_append, List.map_cons, List.map_nil, List.replicate_succ, List.replicate_zero, D.int.injEq, D.bl.injEq, D.lst.injEq, D.str.injEq, D.tup.injEq, pd_sub, pd_eqI, pd_eqB, pd_eqS, pd_neI, pd_neB, pd_neS, pd_ltI, pd_leI, pd_gtI, pd_geI, pd_leS, pd_isN, pd_intI, pd_list, pd_listT, pd_tuple, pd_dct, truth, isNonD, reduceCtorEq, if_true, if_false, reduceIte, Bool.false_eq_true, Bool.not_true, Bool.not_false, List.length_cons, List.length_nil, true_and, and_true, exists_const, exists_eq', List.headD_cons, pd_l0, pd_t0, pd_l1, pd_t1, pd_l2, pd_t2, pd_l3, pd_t3, pd_l4, pd_t4, pd_l5, pd_t5, pd_l6, pd_t6, pd_l7, pd_t7, pd_l8, pd_t8, pd_l9, pd_t9, pd_l10, pd_t10, pd_l11, pd_t11, pd_l12, pd_t12, exists_eq, ok_own, okT_own, late_own, dfTotal]
  refine st_nx ?_
  simp only [ok_v, ok_k, ok_op, ok_and, ok_or, ok_not, ok_if, ok_chain, ok_call, ok_callK, ok_mkK, ok_fld, ok_met, ok_sl, ok_mv, ok_lc, ok_pop, ok_es0, ok_es, ok_o0, ok_o1, okT_and, okT_or, okT_not, okT_k, okT_op, okT_ite, okT_chain, okT_call, okT_fld, okT_lc, okT_pop, okT_callK, okT_v, okTs0, okTs1, okI_val, okI_rng, okI_rng2, okI_zip, okI_enu, okI_slot, ok_pass, ok_brk, ok_cont, ok_expr, ok_set, ok_par, ok_unp, ok_augA, ok_seti, ok_setf, ok_app, ok_ifS, ok_for, ok_whl, ok_ret, late_k, late_op, late_and_, late_or_, late_not_, late_ite, late_chain, late_call, late_fld, late_met, late_sl, late_lc, late_pop, late_mv, late_callK, late_mkK, late_v, late_nil, get_c0, get_cs, List.set_cons_zero, List.set_cons_succ, stK_n, setKs_nil, setKs_n, Option.bind_some, Option.map_some, Option.some.injEq, exists_eq_left', exists_eq_left, pr_call, pr_fi, List.append_nil, List.cons_append, List.nil_append, List.map_cons, List.map_nil, List.replicate_succ, List.replicate_zero, D.int.injEq, D.bl.injEq, D.lst.injEq, D.str.injEq, D.tup.injEq, pd_sub, pd_eqI, pd_eqB, pd_eqS, pd_neI, pd_neB, pd_neS, pd_ltI, pd_leI, pd_gtI, pd_geI, pd_leS, pd_isN, pd_intI, pd_list, pd_listT, pd_tuple, pd_dct, truth, isNonD, reduceCtorEq, if_true, if_false, reduceIte, Bool.false_eq_true, Bool.not_true, Bool.not_false, List.length_cons, List.length_nil, true_and, and_true, exists_const, exists_eq', List.headD_cons, pd_l0, pd_t0, pd_l1, pd_t1, pd_l2, pd_t2, pd_l3, pd_t3, pd_l4, pd_t4, pd_l5, pd_t5, pd_l6, pd_t6, pd_l7, pd_t7, pd_l8, pd_t8, pd_l9, pd_t9, pd_l10, pd_t10, pd_l11, pd_t11, pd_l12, pd_t12, exists_eq, ok_own, okT_own, late_own, itD]
  refine forL_ok (fun xs e => ∃ (rest : List (Nat × Nat)) (a : Nat × Nat) (T B k : Nat) (x : Option D), xs = rest.map pwOf ∧ (∀ r ∈ rest, r.1 ≤ 30 ∧ 1 ≤ r.2 ∧ r.2 ≤ 30) ∧ fo rest a = fo rows (0, 1) ∧ pw T B = pw a.1 a.2 ∧ 1 ≤ B ∧ 1 ≤ a.2 ∧ k + rest.length ≤ 5 ∧ T ≤ k * 30 ^ k ∧ B ≤ 30 ^ k ∧ e = [some (.tup (rows.map pwOf)), some (.int (T : Int)), some (.int (B : Int)), x]) ?_ ?_ _ _ ⟨rows, (0, 1), 0, 1, 0, none, rfl, hr, rfl, rfl, by decide, by decide, by omega, by decide, by decide, rfl⟩
  · rintro x xs e ⟨rest, a, T, B, k, x3, hx, hrr, hfo, he, hB, ha, hk, hT, hB2, rfl⟩
    cases rest with
    | nil => cases hx
    | cons r rest =>
      simp only [List.map_cons, List.cons.injEq] at hx
      obtain ⟨rfl, rfl⟩ := hx
      obtain ⟨hr1, hr2, hr3⟩ := hrr r (List.mem_cons_self ..)
      rw [List.length_cons] at hk
      obtain ⟨p, s, e1, l1⟩ := pw_lo (t := r.1) hr2
      have hp : p ≤ 30 := Nat.le_trans l1.pt hr1
      have hs : s ≤ 30 := Nat.le_trans l1.qb hr3
      obtain ⟨k1, k2⟩ := p30 k (by omega)
      refine ⟨rfl, _, rfl, ?_⟩
      refine st_go ?_
      simp only [ok_v, ok_k, ok_op, ok_and, ok_or, ok_not, ok_if, ok_chain, ok_call, ok_callK, ok_mkK, ok_fld, ok_met, ok_sl, ok_mv, ok_lc, ok_pop, ok_es0, ok_es, ok_o0, ok_o1, okT_and, okT_or, okT_not, okT_k, okT_op, okT_ite, okT_chain, okT_call, okT_fld, okT_lc, okT_pop, okT_callK, okT_v, okTs0, okTs1, okI_val, okI_rng, okI_rng2, okI_zip, okI_enu, okI_slot, ok_pass, ok_brk, ok_cont, ok_expr, ok_set, ok_par, ok_unp, ok_augA, ok_seti, ok_setf, ok_app, ok_ifS, ok_for, ok_whl, ok_ret, late_k, late_op, late_and_, late_or_, late_not_, late_ite, late_chain, late_call, late_fld, late_met, late_sl, late_lc, late_pop, late_mv, late_callK, late_mkK, late_v, late_nil, get_c0, get_cs, List.set_cons_zero, List.set_cons_succ, stK_n, setKs_nil, setKs_n, Option.bind_some, Option.map_some, Option.some.injEq, exists_eq_left', exists_eq_left, pr_call, pr_fi, List.append_nil, List.cons_append, List.nil_append, List.map_cons, List.map_nil, List.replicate_succ, List.replicate_zero, D.int.injEq, D.bl.injEq, D.lst.injEq, D.str.injEq, D.tup.injEq, pd_sub, pd_eqI, pd_eqB, pd_eqS, pd_neI, pd_neB, pd_neS, pd_ltI, pd_leI, pd_gtI, pd_geI, pd_leS, pd_isN, pd_intI, pd_list, pd_listT, pd_tuple, pd_dct, truth, isNonD, reduceCtorEq, if_true, if_false, reduceIte, Bool.false_eq_true, Bool.not_true, Bool.not_false, List.length_cons, List.length_nil, true_and, and_true, exists_const, exists_eq', List.headD_cons, pd_l0, pd_t0, pd_l1, pd_t1, pd_l2, pd_t2, pd_l3, pd_t3, pd_l4, pd_t4, pd_l5, pd_t5, pd_l6, pd_t6, pd_l7, pd_t7, pd_l8, pd_t8, pd_l9, pd_t9, pd_l10, pd_t10, pd_l11, pd_t11, pd_l12, pd_t12, exists_eq, ok_own, okT_own, late_own, pwOf, e1, ex_obj, pr_flds, P.fl, lk_top, lk_bot, mul_nat (show T < 2 ^ 100 from Nat.lt_of_le_of_lt hT (Nat.lt_trans k1 (by decide))) (show s < 2 ^ 100 from Nat.lt_of_le_of_lt hs (by decide)), mul_nat (show p < 2 ^ 100 from Nat.lt_of_le_of_lt hp (by decide)) (show B < 2 ^ 100 from Nat.lt_of_le_of_lt hB2 (Nat.lt_trans k2 (by decide))), add_nat]
      refine st_nx ?_
      simp only [ok_v, ok_k, ok_op, ok_and, ok_or, ok_not, ok_if, ok_chain, ok_call, ok_callK, ok_mkK, ok_fld, ok_met, ok_sl, ok_mv, ok_lc, ok_pop, ok_es0, ok_es, ok_o0, ok_o1, okT_and, okT_or, okT_not, okT_k, okT_op, okT_ite, okT_chain, okT_call, okT_fld, okT_lc, okT_pop, okT_callK, okT_v, okTs0, okTs1, okI_val, okI_rng, okI_rng2, okI_zip, okI_enu, okI_slot, ok_pass, ok_brk, ok_cont, ok_expr, ok_set, ok_par, ok_unp, ok_augA, ok_seti, ok_setf, ok_app, ok_ifS, ok_for, ok_whl, ok_ret, late_k, late_op, late_and_, late_or_, late_not_, late_ite, late_chain, late_call, late_fld, late_met, late_sl, late_lc, late_pop, late_mv, late_callK, late_mkK, late_v, late_nil, get_c0, get_cs, List.set_cons_zero, List.set_cons_succ, stK_n, setKs_nil, setKs_n, Option.bind_some, Option.map_some, Option.some.injEq, exists_eq_left', exists_eq_left, pr_call, pr_fi, List.append_nil, List.cons_append, List.nil_append, List.map_cons, List.map_nil, List.replicate_succ, List.replicate_zero, D.int.injEq, D.bl.injEq, D.lst.injEq, D.str.injEq, D.tup.injEq, pd_sub, pd_eqI, pd_eqB, pd_eqS, pd_neI, pd_neB, pd_neS, pd_ltI, pd_leI, pd_gtI, pd_geI, pd_leS, pd_isN, pd_intI, pd_list, pd_listT, pd_tuple, pd_dct, truth, isNonD, reduceCtorEq, if_true, if_false, reduceIte, Bool.false_eq_true, Bool.not_true, Bool.not_false, List.length_cons, List.length_nil, true_and, and_true, exists_const, exists_eq', List.headD_cons, pd_l0, pd_t0, pd_l1, pd_t1, pd_l2, pd_t2, pd_l3, pd_t3, pd_l4, pd_t4, pd_l5, pd_t5, pd_l6, pd_t6, pd_l7, pd_t7, pd_l8, pd_t8, pd_l9, pd_t9, pd_l10, pd_t10, pd_l11, pd_t11, pd_l12, pd_t12, exists_eq, ok_own, okT_own, late_own, pwOf, e1, ex_obj, pr_flds, P.fl, lk_top, lk_bot, mul_nat (show B < 2 ^ 100 from Nat.lt_of_le_of_lt hB2 (Nat.lt_trans k2 (by decide))) (show s < 2 ^ 100 from Nat.lt_of_le_of_lt hs (by decide))]
      refine st_end ?_
      refine ⟨rest, (a.1 * r.2 + r.1 * a.2, a.2 * r.2), T * s + p * B, B * s, k + 1, _, rfl, fun z hz => hrr z (List.mem_cons_of_mem _ hz), hfo, pw_congr hB ha l1.q1 hr2 he (pw_self l1), Nat.mul_pos hB l1.q1, Nat.mul_pos ha hr2, by omega, ?_, ?_, rfl⟩
      · have a1 : T * s ≤ k * 30 ^ k * 30 := Nat.mul_le_mul hT hs
        have a2 : p * B ≤ 30 * 30 ^ k := Nat.mul_le_mul hp hB2
        rw [Nat.pow_succ, Nat.add_mul, Nat.one_mul]
        have e3 : k * (30 ^ k * 30) = k * 30 ^ k * 30 := (Nat.mul_assoc _ _ _).symm
        have e4 : 30 ^ k * 30 = 30 * 30 ^ k := Nat.mul_comm _ _
        omega
      · rw [Nat.pow_succ]
        exact Nat.mul_le_mul hB2 hs
  · rintro e ⟨rest, a, T, B, k, x3, hx, hrr, hfo, he, hB, ha, hk, hT, hB2, rfl⟩
    cases rest with
    | cons _ _ => cases hx
    | nil =>
      refine ⟨rfl, ?_⟩
      refine st_nx ?_
      obtain ⟨k1, k2⟩ := p30 k (by simpa using hk)
      have hb60 : B < 2 ^ 60 := Nat.lt_of_le_of_lt hB2 k2
      simp only [ok_v, ok_k, ok_op, ok_and, ok_or, ok_not, ok_if, ok_chain, ok_call, ok_callK, ok_mkK, ok_fld, ok_met, ok_sl, ok_mv, ok_lc, ok_pop, ok_es0, ok_es, ok_o0, ok_o1, okT_and, okT_or, okT_not, okT_k, okT_op, okT_ite, okT_chain, okT_call, okT_fld, okT_lc, okT_pop, okT_callK, okT_v, okTs0, okTs1, okI_val, okI_rng, okI_rng2, okI_zip, okI_enu, okI_slot, ok_pass, ok_brk, ok_cont, ok_expr, ok_set, ok_par, ok_unp, ok_augA, ok_seti, ok_setf, ok_app, ok_ifS, ok_for, ok_whl, ok_ret, late_k, late_op, late_and_, late_or_, late_not_, late_ite, late_chain, late_call, late_fld, late_met, late_sl, late_lc, late_pop, late_mv, late_callK, late_mkK, late_v, late_nil, get_c0, get_cs, List.set_cons_zero, List.set_cons_succ, stK_n, setKs_nil, setKs_n, Option.bind_some, Option.map_some, Option.some.injEq, exists_eq_left', exists_eq_left, pr_call, pr_fi, List.append_nil, List.cons_append, List.nil_append, List.map_cons, List.map_nil, List.replicate_succ, List.replicate_zero, D.int.injEq, D.bl.injEq, D.lst.injEq, D.str.injEq, D.tup.injEq, pd_sub, pd_eqI, pd_eqB, pd_eqS, pd_neI, pd_neB, pd_neS, pd_ltI, pd_leI, pd_gtI, pd_geI, pd_leS, pd_isN, pd_intI, pd_list, pd_listT, pd_tuple, pd_dct, truth, isNonD, reduceCtorEq, if_true, if_false, reduceIte, Bool.false_eq_true, Bool.not_true, Bool.not_false, List.length_cons, List.length_nil, true_and, and_true, exists_const, exists_eq', List.headD_cons, pd_l0, pd_t0, pd_l1, pd_t1, pd_l2, pd_t2, pd_l3, pd_t3, pd_l4, pd_t4, pd_l5, pd_t5, pd_l6, pd_t6, pd_l7, pd_t7, pd_l8, pd_t8, pd_l9, pd_t9, pd_l10, pd_t10, pd_l11, pd_t11, pd_l12, pd_t12, exists_eq, ok_own, okT_own, late_own, sh_eq P.s0, List.getElem?_cons_zero, List.getElem?_cons_succ, nx_ret, wipeE, backE, endQ, Fi.io, outsOf, isM, List.headD_cons, List.tail_cons, back, pickE, pick]
      refine (mk_ok P hB (Nat.lt_of_lt_of_le (Nat.lt_trans hb60 (by decide)) hK) (Nat.lt_trans hb60 (by decide))).imp ?_
      rintro _ _ ⟨rfl, rfl⟩
      refine ⟨rfl, _, _, rfl, ?_⟩
      rw [he, ← hfo]
      rfl
theorem o_stat (P : PwT pg ini num gcd ad ra mu rm eq st) (h : pg.defs[i]? = some dfTotal) (hs : (pg.stats.getD 0 []).lookup ("total" : Str) = some i) (hK : 2 ^ 120 ≤ KK) {rows : List (Nat × Nat)} (hr : ∀ r ∈ rows, r.1 ≤ 30 ∧ 1 ≤ r.2 ∧ r.2 ≤ 30) (hl : rows.length ≤ 5) :
    (pg.prOf (pg.callN KK (n + 3))).ownD (.stat 0 "total") (rows.map pwOf) = some (pwOf (fo rows (0, 1))) := by
  refine own_of (as := [.tup (rows.map pwOf)]) (f := i) (by decide) ?_ (total_ok P h hK hr hl) rfl
  have e0 : ∀ ds, ownF (pg.prOf (pg.callN KK (n + 3))).dun (pg.prOf (pg.callN KK (n + 3))).sta (.stat 0 "total") ds = if small ds.length then ((pg.stats.getD 0 []).lookup ("total" : Str)).map fun f => (f, [.tup ds]) else none := fun ds => by
    rcases ds with _ | ⟨a, _ | ⟨b, _ | ⟨c, ds⟩⟩⟩ <;> first | rfl | (cases a <;> rfl) | (cases a <;> cases b <;> rfl)
  rw [e0, hs, if_pos (small_le (by rw [List.length_map]; omega))]
  rfl
theorem o_str3 (P : PwT pg ini num gcd ad ra mu rm eq st) : (pg.prOf (pg.callN KK (n + 1))).ownD .str [pw 9 3] = some (.str [51]) := by
  refine own_of (as := [pw 9 3]) (f := st) (r := .str [51]) (by decide) ?_ ?_ rfl
  · show ((pg.meths.getD 0 []).lookup ("__str__" : Str)).map _ = _
    rw [P.d6]; rfl
  · rw [show pw 9 3 = .obj 0 [.int 3, .int 1] from rfl]
    refine callN_ok P.hs rfl ?_
    refine st_go ?_
    simp only [ok_v, ok_k, ok_op, ok_and, ok_or, ok_not, ok_if, ok_chain, ok_call, ok_callK, ok_mkK, ok_fld, ok_met, ok_sl, ok_mv, ok_lc, ok_pop, ok_es0, ok_es, ok_o0, ok_o1, okT_and, okT_or, okT_not, okT_k, okT_op, okT_ite, okT_chain, okT_call, okT_fld, okT_lc, okT_pop, okT_callK, okT_v, okTs0, okTs1, okI_val, okI_rng, okI_rng2, okI_zip, okI_enu, okI_slot, ok_pass, ok_brk, ok_cont, ok_expr, ok_set, ok_par, ok_unp, ok_augA, ok_seti, ok_setf, ok_app, ok_ifS, ok_for, ok_whl, ok_ret, late_k, late_op, late_and_, late_or_, late_not_, late_ite, late_chain, late_call, late_fld, late_met, late_sl, late_lc, late_pop, late_mv, late_callK, late_mkK, late_v, late_nil, get_c0, get_cs, List.set_cons_zero, List.set_cons_succ, stK_n, setKs_nil, setKs_n, Option.bind_some, Option.map_some, Option.some.injEq, exists_eq_left', exists_eq_left, pr_call, pr_fi, List.append_nil, List.cons_append, List.nil_append, List.map_cons, List.map_nil, List.replicate_succ, List.replicate_zero, D.int.injEq, D.bl.injEq, D.lst.injEq, D.str.injEq, D.tup.injEq, pd_sub, pd_eqI, pd_eqB, pd_eqS, pd_neI, pd_neB, pd_neS, pd_ltI, pd_leI, pd_gtI, pd_geI, pd_leS, pd_isN, pd_intI, pd_list, pd_listT, pd_tuple, pd_dct, truth, isNonD, reduceCtorEq, if_true, if_false, reduceIte, Bool.false_eq_true, Bool.not_true, Bool.not_false, List.length_cons, List.length_nil, true_and, and_true, exists_const, exists_eq', List.headD_cons, pd_l0, pd_t0, pd_l1, pd_t1, pd_l2, pd_t2, pd_l3, pd_t3, pd_l4, pd_t4, pd_l5, pd_t5, pd_l6, pd_t6, pd_l7, pd_t7, pd_l8, pd_t8, pd_l9, pd_t9, pd_l10, pd_t10, pd_l11, pd_t11, pd_l12, pd_t12, exists_eq, ok_own, okT_own, late_own, dfStr, ex_obj, pr_flds, P.fl, lk_top, lk_bot, beq_self_eq_true]
    refine st_go ?_
    simp only [ok_v, ok_k, ok_op, ok_and, ok_or, ok_not, ok_if, ok_chain, ok_call, ok_callK, ok_mkK, ok_fld, ok_met, ok_sl, ok_mv, ok_lc, ok_pop, ok_es0, ok_es, ok_o0, ok_o1, okT_and, okT_or, okT_not, okT_k, okT_op, okT_ite, okT_chain, okT_call, okT_fld, okT_lc, okT_pop, okT_callK, okT_v, okTs0, okTs1, okI_val, okI_rng, okI_rng2, okI_zip, okI_enu, okI_slot, ok_pass, ok_brk, ok_cont, ok_expr, ok_set, ok_par, ok_unp, ok_augA, ok_seti, ok_setf, ok_app, ok_ifS, ok_for, ok_whl, ok_ret, late_k, late_op, late_and_, late_or_, late_not_, late_ite, late_chain, late_call, late_fld, late_met, late_sl, late_lc, late_pop, late_mv, late_callK, late_mkK, late_v, late_nil, get_c0, get_cs, List.set_cons_zero, List.set_cons_succ, stK_n, setKs_nil, setKs_n, Option.bind_some, Option.map_some, Option.some.injEq, exists_eq_left', exists_eq_left, pr_call, pr_fi, List.append_nil, List.cons_append, List.nil_append, List.map_cons, List.map_nil, List.replicate_succ, List.replicate_zero, D.int.injEq, D.bl.injEq, D.lst.injEq, D.str.injEq, D.tup.injEq, pd_sub, pd_eqI, pd_eqB, pd_eqS, pd_neI, pd_neB, pd_neS, pd_ltI, pd_leI, pd_gtI, pd_geI, pd_leS, pd_isN, pd_intI, pd_list, pd_listT, pd_tuple, pd_dct, truth, isNonD, reduceCtorEq, if_true, if_false, reduceIte, Bool.false_eq_true, Bool.not_true, Bool.not_false, List.length_cons, List.length_nil, true_and, and_true, exists_const, exists_eq', List.headD_cons, pd_l0, pd_t0, pd_l1, pd_t1, pd_l2, pd_t2, pd_l3, pd_t3, pd_l4, pd_t4, pd_l5, pd_t5, pd_l6, pd_t6, pd_l7, pd_t7, pd_l8, pd_t8, pd_l9, pd_t9, pd_l10, pd_t10, pd_l11, pd_t11, pd_l12, pd_t12, exists_eq, ok_own, okT_own, late_own, ex_obj, pr_flds, P.fl, lk_top, lk_bot]
    refine ⟨_, (show pD (.bf .str) [.int 3] = some (.str (decT 3)) from rfl), ?_⟩
    simp only [ok_v, ok_k, ok_op, ok_and, ok_or, ok_not, ok_if, ok_chain, ok_call, ok_callK, ok_mkK, ok_fld, ok_met, ok_sl, ok_mv, ok_lc, ok_pop, ok_es0, ok_es, ok_o0, ok_o1, okT_and, okT_or, okT_not, okT_k, okT_op, okT_ite, okT_chain, okT_call, okT_fld, okT_lc, okT_pop, okT_callK, okT_v, okTs0, okTs1, okI_val, okI_rng, okI_rng2, okI_zip, okI_enu, okI_slot, ok_pass, ok_brk, ok_cont, ok_expr, ok_set, ok_par, ok_unp, ok_augA, ok_seti, ok_setf, ok_app, ok_ifS, ok_for, ok_whl, ok_ret, late_k, late_op, late_and_, late_or_, late_not_, late_ite, late_chain, late_call, late_fld, late_met, late_sl, late_lc, late_pop, late_mv, late_callK, late_mkK, late_v, late_nil, get_c0, get_cs, List.set_cons_zero, List.set_cons_succ, stK_n, setKs_nil, setKs_n, Option.bind_some, Option.map_some, Option.some.injEq, exists_eq_left', exists_eq_left, pr_call, pr_fi, List.append_nil, List.cons_append, List.nil_append, List.map_cons, List.map_nil, List.replicate_succ, List.replicate_zero, D.int.injEq, D.bl.injEq, D.lst.injEq, D.str.injEq, D.tup.injEq, pd_sub, pd_eqI, pd_eqB, pd_eqS, pd_neI, pd_neB, pd_neS, pd_ltI, pd_leI, pd_gtI, pd_geI, pd_leS, pd_isN, pd_intI, pd_list, pd_listT, pd_tuple, pd_dct, truth, isNonD, reduceCtorEq, if_true, if_false, reduceIte, Bool.false_eq_true, Bool.not_true, Bool.not_false, List.length_cons, List.length_nil, true_and, and_true, exists_const, exists_eq', List.headD_cons, pd_l0, pd_t0, pd_l1, pd_t1, pd_l2, pd_t2, pd_l3, pd_t3, pd_l4, pd_t4, pd_l5, pd_t5, pd_l6, pd_t6, pd_l7, pd_t7, pd_l8, pd_t8, pd_l9, pd_t9, pd_l10, pd_t10, pd_l11, pd_t11, pd_l12, pd_t12, exists_eq, ok_own, okT_own, late_own, List.getElem?_cons_zero, List.getElem?_cons_succ, nx_ret, wipeE, backE, endQ, Fi.io, outsOf, isM, List.headD_cons, List.tail_cons, back, pickE, pick]
    rw [show decT 3 = [51] by decide +kernel]
end
end TE
namespace K
open PySem L2 TE
def df_law : Df := ⟨⟨[.n], true⟩, [.m, .n, .n, .n, .n, .n, .n, .n, .n, .n, .n, .n, .n, .n, .n, .n, .n, .n], [(.set 1 true (.call 1 [(.v 0)] [])), (.for_ (.nm 2) (.rng (.k (.int 6))) [(.set 3 false (.lc [17] (.nm 17) (.rng (.k (.int 5))) [] (.op .tup [(.call 5 [(.v 1), (.k (.int 30))] []), (.op .add [(.k (.int 1)), (.call 5 [(.v 1), (.k (.int 30))] [])])]))), (.par [(4, false), (5, false), (6, false)] [(.op .idx [(.v 3), (.k (.int 0))]), (.op .idx [(.v 3), (.k (.int 1))]), (.call 2 [(.v 1), (.op .lst [(.k (.int 0)), (.k (.int 1)), (.call 5 [(.v 1), (.op .pow [(.k (.int 10)), (.k (.int 6))])] [])])] [])]), (.par [(7, false), (8, false)] [(.mkK 0 0 [(.op .idx [(.v 4), (.k (.int 0))]), (.op .idx [(.v 4), (.k (.int 1))])]), (.mkK 0 0 [(.op .idx [(.v 5), (.k (.int 0))]), (.op .idx [(.v 5), (.k (.int 1))])])]), (.par [(9, false), (10, false)] [(.op .tup [(.op .add [(.op .mul [(.op .idx [(.v 4), (.k (.int 0))]), (.op .idx [(.v 5), (.k (.int 1))])]), (.op .mul [(.op .idx [(.v 5), (.k (.int 0))]), (.op .idx [(.v 4), (.k (.int 1))])])]), (.op .mul [(.op .idx [(.v 4), (.k (.int 1))]), (.op .idx [(.v 5), (.k (.int 1))])])]), (.op .tup [(.op .mul [(.op .idx [(.v 4), (.k (.int 0))]), (.op .idx [(.v 5), (.k (.int 0))])]), (.op .mul [(.op .idx [(.v 4), (.k (.int 1))]), (.op .idx [(.v 5), (.k (.int 1))])])])]), (.set 11 false (.op .lst [(.own .add [(.v 7), (.v 8)]), (.own .add [(.v 8), (.v 7)]), (.own .mul [(.v 7), (.v 8)]), (.own .mul [(.v 8), (.v 7)]), (.own .add [(.v 7), (.v 6)]), (.own .add [(.v 6), (.v 7)]), (.own .mul [(.v 7), (.v 6)]), (.own .mul [(.v 6), (.v 7)])])), (.set 12 false (.op .lst [(.v 9), (.v 9), (.v 10), (.v 10), (.op .tup [(.op .add [(.op .idx [(.v 4), (.k (.int 0))]), (.op .mul [(.v 6), (.op .idx [(.v 4), (.k (.int 1))])])]), (.op .idx [(.v 4), (.k (.int 1))])]), (.op .tup [(.op .add [(.op .idx [(.v 4), (.k (.int 0))]), (.op .mul [(.v 6), (.op .idx [(.v 4), (.k (.int 1))])])]), (.op .idx [(.v 4), (.k (.int 1))])]), (.op .tup [(.op .mul [(.op .idx [(.v 4), (.k (.int 0))]), (.v 6)]), (.op .idx [(.v 4), (.k (.int 1))])]), (.op .tup [(.op .mul [(.op .idx [(.v 4), (.k (.int 0))]), (.v 6)]), (.op .idx [(.v 4), (.k (.int 1))])])])), (.for_ (.nm 13) (.rng (.k (.int 8))) [(.if_ (.or_ (.not_ (.op (.isi 1 [.own 0]) [(.op .idx [(.v 11), (.v 13)])])) (.own .ne [(.op .idx [(.v 11), (.v 13)]), (.mkK 0 0 [(.op .idx [(.op .idx [(.v 12), (.v 13)]), (.k (.int 0))]), (.op .idx [(.op .idx [(.v 12), (.v 13)]), (.k (.int 1))])])])) [(.ret (.k (.bl false)))] [])]), (.if_ (.not_ (.call 4 [(.op .lst [(.own .eq [(.v 7), (.mkK 0 0 [(.op .idx [(.v 4), (.k (.int 0))]), (.op .idx [(.v 4), (.k (.int 1))])])]), (.own .eq [(.v 8), (.mkK 0 0 [(.op .idx [(.v 5), (.k (.int 0))]), (.op .idx [(.v 5), (.k (.int 1))])])])]), (.op .lst [(.k (.bl true)), (.k (.bl true))])] [])) [(.ret (.k (.bl false)))] []), (.set 14 false (.lc [18] (.nm 18) (.val (.v 3)) [] (.mkK 0 0 [(.op .idx [(.v 18), (.k (.int 0))]), (.op .idx [(.v 18), (.k (.int 1))])]))), (.set 15 false (.own .add [(.own .add [(.own .add [(.own .add [(.op .idx [(.v 14), (.k (.int 0))]), (.op .idx [(.v 14), (.k (.int 1))])]), (.op .idx [(.v 14), (.k (.int 2))])]), (.op .idx [(.v 14), (.k (.int 3))])]), (.op .idx [(.v 14), (.k (.int 4))])])), (.set 16 false (.op .lst [(.own (.stat 0 "total") []), (.own (.stat 0 "total") [(.op .idx [(.v 14), (.k (.int 0))])]), (.own (.stat 0 "total") [(.op .idx [(.v 14), (.k (.int 0))]), (.op .idx [(.v 14), (.k (.int 1))]), (.op .idx [(.v 14), (.k (.int 2))]), (.op .idx [(.v 14), (.k (.int 3))]), (.op .idx [(.v 14), (.k (.int 4))])])])), (.if_ (.not_ (.own .eqL [(.v 16), (.op .lst [(.mkK 1 0 [(.k (.int 0))]), (.op .idx [(.v 14), (.k (.int 0))]), (.v 15)])])) [(.ret (.k (.bl false)))] [])]), (.ret (.and_ (.own .eq [(.own (.stat 0 "total") [(.mkK 0 0 [(.k (.int 1)), (.k (.int 2))]), (.mkK 0 0 [(.k (.int 1)), (.k (.int 2))])]), (.mkK 1 0 [(.k (.int 1))])]) (.op .eq [(.own .str [(.own .add [(.own .mul [(.mkK 0 0 [(.k (.int 1)), (.k (.int 3))]), (.k (.int 3))]), (.k (.int 2))])]), (.k (.str [51]))])))]⟩
def df__law_draws : Df := ⟨⟨[.n], true⟩, [], [(.ret (.op .lst [(.op (.bf .list) [(.sl (.v 0) [] [(.k (.int 63))])]), (.k (.int 0)), (.k (.int 0)), (.k (.int 10039)), (.k (.int 0))]))]⟩
def df__law_any : Df := ⟨⟨[.m, .n], false⟩, [], [(.ret (.op .idx [(.v 1), (.call 5 [(.v 0), (.op (.bf .len) [(.v 1)])] [])]))]⟩
def df_Power___init__ : Df := ⟨⟨[.m, .n, .n], true⟩, [.n], [(.if_ (.or_ (.not_ (.call 7 [(.v 1)] [])) (.or_ (.not_ (.call 7 [(.v 2)] [])) (.or_ (.op .lt [(.v 1), (.k (.int 0))]) (.op .lt [(.v 2), (.k (.int 1))])))) [.bad] []), (.set 3 false (.call 6 [(.v 1), (.v 2)] [])), (.setf 0 "top" (.op .fdv [(.v 1), (.v 3)])), (.setf 0 "bottom" (.op .fdv [(.v 2), (.v 3)]))]⟩
def df__law_like : Df := ⟨⟨[.n, .n], true⟩, [.n, .n, .n], [(.if_ (.op (.isi 1 [.ty .dict]) [(.v 1)]) [(.if_ (.or_ (.not_ (.op (.isi 1 [.ty .dict]) [(.v 0)])) (.op .ne [(.op (.bf .len) [(.v 0)]), (.op (.bf .len) [(.v 1)])])) [(.ret (.k (.bl false)))] []), (.ret (.op (.bf .all) [(.lc [2] (.nm 2) (.val (.v 1)) [] (.and_ (.op .inn [(.v 2), (.v 0)]) (.call 4 [(.op .idx [(.v 0), (.v 2)]), (.op .idx [(.v 1), (.v 2)])] [])))]))] []), (.if_ (.op (.isi 1 [.ty .list, .ty .tuple]) [(.v 1)]) [(.if_ (.or_ (.op .ne [(.op (.isi 1 [.ty .list]) [(.v 0)]), (.op (.isi 1 [.ty .list]) [(.v 1)])]) (.op .ne [(.op (.isi 1 [.ty .tuple]) [(.v 0)]), (.op (.isi 1 [.ty .tuple]) [(.v 1)])])) [(.ret (.k (.bl false)))] []), (.ret (.and_ (.op .eq [(.op (.bf .len) [(.v 0)]), (.op (.bf .len) [(.v 1)])]) (.op (.bf .all) [(.lc [3, 4] (.tp [3, 4]) (.zip (.v 0) (.v 1)) [] (.call 4 [(.v 3), (.v 4)] []))])))] []), (.if_ (.or_ (.op .isN [(.v 1)]) (.op .isN [(.v 0)])) [(.ret (.and_ (.op .isN [(.v 1)]) (.op .isN [(.v 0)])))] []), (.if_ (.or_ (.op .ne [(.op (.isi 1 [.ty .bool]) [(.v 0)]), (.op (.isi 1 [.ty .bool]) [(.v 1)])]) (.op .ne [(.op (.isi 1 [.ty .int]) [(.v 0)]), (.op (.isi 1 [.ty .int]) [(.v 1)])])) [(.ret (.k (.bl false)))] []), (.ret (.and_ (.op .eq [(.op (.isi 1 [.ty .str]) [(.v 0)]), (.op (.isi 1 [.ty .str]) [(.v 1)])]) (.op .eq [(.v 0), (.v 1)])))]⟩
def df__law_pull : Df := ⟨⟨[.m, .n], false⟩, [.n, .n, .n], [(.seti 0 (.k (.int 4)) (.op .add [(.op .idx [(.v 0), (.k (.int 4))]), (.k (.int 1))])), (.if_ (.and_ (.op .eq [(.op .idx [(.v 0), (.k (.int 2))]), (.k (.int 0))]) (.op .lt [(.op .idx [(.v 0), (.k (.int 1))]), (.op (.bf .len) [(.op .idx [(.v 0), (.k (.int 0))])])])) [(.set 3 false (.op .idx [(.op .idx [(.v 0), (.k (.int 0))]), (.op .idx [(.v 0), (.k (.int 1))])])), (.seti 0 (.k (.int 1)) (.op .add [(.op .idx [(.v 0), (.k (.int 1))]), (.k (.int 1))])), (.if_ (.op .ge [(.v 3), (.op .pow [(.k (.int 10)), (.k (.int 18))])]) [(.seti 0 (.k (.int 2)) (.v 3))] []), (.seti 0 (.k (.int 3)) (.op .mod [(.op (.bf .int) [(.op .add [(.op .add [(.op .mul [(.op .idx [(.v 0), (.k (.int 3))]), (.k (.int 44021))]), (.op .mul [(.op .mod [(.op (.bf .int) [(.v 3)]), (.k (.int 2147483249))]), (.k (.int 52181))])]), (.k (.int 71))])]), (.k (.int 2147483353))]))] []), (.if_ (.op .gt [(.op .idx [(.v 0), (.k (.int 2))]), (.k (.int 0))]) [(.set 4 false (.op .mod [(.op (.bf .int) [(.op .idx [(.v 0), (.k (.int 2))])]), (.v 1)])), (.seti 0 (.k (.int 2)) (.op .fdv [(.op .idx [(.v 0), (.k (.int 2))]), (.v 1)])), (.ret (.v 4))] []), (.set 2 false (.op .idx [(.v 0), (.k (.int 3))])), (.seti 0 (.k (.int 3)) (.op .mod [(.op (.bf .int) [(.op .add [(.op .add [(.op .add [(.op .pow [(.v 2), (.k (.int 3))]), (.op .mul [(.v 2), (.k (.int 38993))])]), (.op .mul [(.op .idx [(.v 0), (.k (.int 4))]), (.k (.int 1299721))])]), (.k (.int 70507))])]), (.k (.int 2147483353))])), (.ret (.op .mod [(.op (.bf .int) [(.op .add [(.op .fdv [(.op .idx [(.v 0), (.k (.int 3))]), (.k (.int 89))]), (.op .mul [(.op .mod [(.op (.bf .int) [(.op .idx [(.v 0), (.k (.int 3))])]), (.k (.int 7907))]), (.k (.int 61))])])]), (.v 1)]))]⟩
def df_greatest_factor : Df := ⟨⟨[.n, .n], false⟩, [], [(.whl (.v 1) [(.par [(0, false), (1, false)] [(.v 1), (.op .mod [(.v 0), (.v 1)])])]), (.ret (.v 0))]⟩
def df_is_number : Df := ⟨⟨[.n], true⟩, [], [(.ret (.and_ (.op (.isi 1 [.ty .int]) [(.v 0)]) (.not_ (.op (.isi 1 [.ty .bool]) [(.v 0)]))))]⟩
def df_Power___add__ : Df := ⟨⟨[.n, .n], false⟩, [], [(.if_ (.op (.isi 1 [.own 0]) [(.v 1)]) [(.ret (.mkK 0 0 [(.op .add [(.op .mul [(.fld "top" (.v 0)), (.fld "bottom" (.v 1))]), (.op .mul [(.fld "top" (.v 1)), (.fld "bottom" (.v 0))])]), (.op .mul [(.fld "bottom" (.v 0)), (.fld "bottom" (.v 1))])]))] []), (.if_ (.and_ (.call 7 [(.v 1)] []) (.op .ge [(.v 1), (.k (.int 0))])) [(.ret (.mkK 0 0 [(.op .add [(.fld "top" (.v 0)), (.op .mul [(.v 1), (.fld "bottom" (.v 0))])]), (.fld "bottom" (.v 0))]))] []), (.ret .bad)]⟩
def df_Power___radd__ : Df := ⟨⟨[.n, .n], false⟩, [], [(.ret (.own .add [(.v 0), (.v 1)]))]⟩
def df_Power___mul__ : Df := ⟨⟨[.n, .n], false⟩, [], [(.if_ (.op (.isi 1 [.own 0]) [(.v 1)]) [(.ret (.mkK 0 0 [(.op .mul [(.fld "top" (.v 0)), (.fld "top" (.v 1))]), (.op .mul [(.fld "bottom" (.v 0)), (.fld "bottom" (.v 1))])]))] []), (.if_ (.and_ (.call 7 [(.v 1)] []) (.op .ge [(.v 1), (.k (.int 0))])) [(.ret (.mkK 0 0 [(.op .mul [(.fld "top" (.v 0)), (.v 1)]), (.fld "bottom" (.v 0))]))] []), (.ret .bad)]⟩
def df_Power___rmul__ : Df := ⟨⟨[.n, .n], false⟩, [], [(.ret (.own .mul [(.v 0), (.v 1)]))]⟩
def df_Power___eq__ : Df := ⟨⟨[.n, .n], false⟩, [], [(.if_ (.not_ (.op (.isi 1 [.own 0]) [(.v 1)])) [(.ret .bad)] []), (.ret (.and_ (.op .eq [(.fld "top" (.v 0)), (.fld "top" (.v 1))]) (.op .eq [(.fld "bottom" (.v 0)), (.fld "bottom" (.v 1))])))]⟩
def df_Power___str__ : Df := ⟨⟨[.n], true⟩, [], [(.if_ (.op .eq [(.fld "bottom" (.v 0)), (.k (.int 1))]) [(.ret (.op (.bf .str) [(.fld "top" (.v 0))]))] []), (.ret .bad)]⟩
def df_Power_total : Df := ⟨⟨[.n], true⟩, [.n, .n, .n], [(.par [(1, false), (2, false)] [(.k (.int 0)), (.k (.int 1))]), (.for_ (.nm 3) (.val (.v 0)) [(.set 1 false (.op .add [(.op .mul [(.v 1), (.fld "bottom" (.v 3))]), (.op .mul [(.fld "top" (.v 3)), (.v 2)])])), (.set 2 false (.op .mul [(.v 2), (.fld "bottom" (.v 3))]))]), (.ret (.mkK 0 0 [(.v 1), (.v 2)]))]⟩
def pg : Pg := ⟨[⟨3, 2, [], [.inl 0, .inl 1]⟩, ⟨3, 1, [], [.inl 0, .inr (0, (.int 1))]⟩], [df_law, df__law_draws, df__law_any, df_Power___init__, df__law_like, df__law_pull, df_greatest_factor, df_is_number, df_Power___add__, df_Power___radd__, df_Power___mul__, df_Power___rmul__, df_Power___eq__, df_Power___str__, df_Power_total], [3], [["top", "bottom"]], [[("__add__", 8), ("__radd__", 9), ("__mul__", 10), ("__rmul__", 11), ("__eq__", 12), ("__str__", 13)]], [[("total", 14)]]⟩
end K
-- bad ('Power.__init__', 26, 'Raise')
-- bad ('Power.__add__', 62, 'name NotImplemented')
-- bad ('Power.__mul__', 72, 'name NotImplemented')
-- bad ('Power.__eq__', 79, 'name NotImplemented')
-- bad ('Power.__str__', 88, 'JoinedStr')
namespace K
open PySem L2 TE
theorem d1 : pg.defs[1]? = some dfDraws := rfl
theorem d2 : pg.defs[2]? = some (dfAny 5) := rfl
theorem d4 : pg.defs[4]? = some (dfLike 1 4) := rfl
theorem d5 : pg.defs[5]? = some dfPull := rfl
theorem d14 : pg.defs[14]? = some dfTotal := rfl
theorem P : PwT pg 3 7 6 8 9 10 11 12 13 := ⟨rfl, rfl, rfl, rfl, rfl, rfl, rfl, rfl, rfl, rfl, rfl, rfl, rfl, rfl, rfl, rfl, rfl⟩
theorem f1 : (pg.fiOf 1).kd = [.n] := rfl
theorem f2 : (pg.fiOf 2).kd = [.m, .n] := rfl
theorem f3 : (pg.fiOf 3).kd = [.m, .n, .n] := rfl
theorem f4 : (pg.fiOf 4).kd = [.n, .n] := rfl
theorem f5 : (pg.fiOf 5).kd = [.m, .n] := rfl
theorem h0 : pg.sh[0]? = some ⟨3, 2, [], [.inl 0, .inl 1]⟩ := rfl
theorem h1 : pg.sh[1]? = some ⟨3, 1, [], [.inl 0, .inr (0, (.int 1))]⟩ := rfl
theorem hK : 2 ^ 120 ≤ 10000000000000000000000000000000000000000 := by decide
theorem p6 : pD .pow [.int 10, .int 6] = some (.int 1000000) := by rw [pd_pow (by decide)]; rfl
theorem mk39 {a b : Nat} (h1 : 1 ≤ b) (hl : b < 2 ^ 60) : (pg.callN 10000000000000000000000000000000000000000 39 3 [.obj 0 [], .int (a : Int), .int (b : Int)]).Ok fun d o => d = .non ∧ o = [some (pw a b), none, none] :=
  mk_ok (n := 37) P h1 (Nat.lt_of_lt_of_le (Nat.lt_trans hl (by decide)) hK) (Nat.lt_trans hl (by decide))
def rowD (r : Nat × Nat) : D := .tup [.int (r.1 : Int), .int (r.2 : Int)]
def Rw (r : Nat × Nat) : Prop := r.1 ≤ 30 ∧ 1 ≤ r.2 ∧ r.2 ≤ 30
theorem idx0 {x : D} {xs : List D} : pD .idx [.lst (x :: xs), .int 0] = some x := by
  rw [pd_idxL, ix_int (Int.le_refl 0) (by simp)]; rfl
theorem idt0 {x : D} {xs : List D} : pD .idx [.tup (x :: xs), .int 0] = some x := by
  rw [pd_idxT, ix_int (Int.le_refl 0) (by simp)]; rfl
theorem idt1 {x y : D} {xs : List D} : pD .idx [.tup (x :: y :: xs), .int 1] = some y := by
  rw [pd_idxT, ix_int (by decide) (by simp; omega)]; rfl
theorem idl1 {x y : D} {xs : List D} : pD .idx [.lst (x :: y :: xs), .int 1] = some y := by
  rw [pd_idxL, ix_int (by decide) (by simp; omega)]; rfl
theorem idl2 {x y z : D} {xs : List D} : pD .idx [.lst (x :: y :: z :: xs), .int 2] = some z := by
  rw [pd_idxL, ix_int (by decide) (by simp; omega)]; rfl
theorem idl3 {x y z u : D} {xs : List D} : pD .idx [.lst (x :: y :: z :: u :: xs), .int 3] = some u := by
  rw [pd_idxL, ix_int (by decide) (by simp; omega)]; rfl
theorem idl4 {x y z u v : D} {xs : List D} : pD .idx [.lst (x :: y :: z :: u :: v :: xs), .int 4] = some v := by
  rw [pd_idxL, ix_int (by decide) (by simp; omega)]; rfl
theorem plain_body (b : D) (ns : List Int) (hb : Bag 10000 b) : (exSs (pg.prOf (pg.callN 10000000000000000000000000000000000000000 39)) 10000000000000000000000000000000000000000 (df_law.body.drop 1) [some (.scr ns), some b, none, none, none, none, none, none, none, none, none, none, none, none, none, none, none, none, none]).Ok (endQ [false] fun d _ => d = .bl true) := by
  refine st_go ?_
  simp only [ok_v, ok_k, ok_op, ok_and, ok_or, ok_not, ok_if, ok_chain, ok_call, ok_callK, ok_mkK, ok_fld, ok_met, ok_sl, ok_mv, ok_lc, ok_pop, ok_es0, ok_es, ok_o0, ok_o1, okT_and, okT_or, okT_not, okT_k, okT_op, okT_ite, okT_chain, okT_call, okT_fld, okT_lc, okT_pop, okT_callK, okT_v, okTs0, okTs1, okI_val, okI_rng, okI_rng2, okI_zip, okI_enu, okI_slot, ok_pass, ok_brk, ok_cont, ok_expr, ok_set, ok_par, ok_unp, ok_augA, ok_seti, ok_setf, ok_app, ok_ifS, ok_for, ok_whl, ok_ret, late_k, late_op, late_and_, late_or_, late_not_, late_ite, late_chain, late_call, late_fld, late_met, late_sl, late_lc, late_pop, late_mv, late_callK, late_mkK, late_v, late_nil, get_c0, get_cs, List.set_cons_zero, List.set_cons_succ, stK_n, setKs_nil, setKs_n, Option.bind_some, Option.map_some, Option.some.injEq, exists_eq_left', exists_eq_left, pr_call, pr_fi, List.append_nil, List.cons_append, List.nil_append, List.map_cons, List.map_nil, List.replicate_succ, List.replicate_zero, D.int.injEq, D.bl.injEq, D.lst.injEq, D.str.injEq, D.tup.injEq, pd_sub, pd_eqI, pd_eqB, pd_eqS, pd_neI, pd_neB, pd_neS, pd_ltI, pd_leI, pd_gtI, pd_geI, pd_leS, pd_isN, pd_intI, pd_list, pd_listT, pd_tuple, pd_dct, truth, isNonD, reduceCtorEq, if_true, if_false, reduceIte, Bool.false_eq_true, Bool.not_true, Bool.not_false, List.length_cons, List.length_nil, true_and, and_true, exists_const, exists_eq', List.headD_cons, pd_l0, pd_t0, pd_l1, pd_t1, pd_l2, pd_t2, pd_l3, pd_t3, pd_l4, pd_t4, pd_l5, pd_t5, pd_l6, pd_t6, pd_l7, pd_t7, pd_l8, pd_t8, pd_l9, pd_t9, pd_l10, pd_t10, pd_l11, pd_t11, pd_l12, pd_t12, exists_eq, ok_own, okT_own, late_own, df_law]
  refine ⟨_, rngOk (by decide) (by decide), ?_⟩
  refine forL_ok (fun xs e => ∃ (b : D) (r : List (Option D)), e = some (.scr ns) :: some b :: r ∧ r.length = 17 ∧ Bag (100 * xs.length + 10) b) ?_ ?_ _ _ ⟨b, _, rfl, rfl, hb.mono (by decide)⟩
  · rintro x xs e ⟨b, r, rfl, hr, hb⟩
    match r, hr with
    | [x2, x3, x4, x5, x6, x7, x8, x9, x10, x11, x12, x13, x14, x15, x16, x17, x18], _ =>
    rw [List.length_cons] at hb
    refine ⟨rfl, _, rfl, ?_⟩
    -- the rows
    refine st_go ?_
    simp only [ok_v, ok_k, ok_op, ok_and, ok_or, ok_not, ok_if, ok_chain, ok_call, ok_callK, ok_mkK, ok_fld, ok_met, ok_sl, ok_mv, ok_lc, ok_pop, ok_es0, ok_es, ok_o0, ok_o1, okT_and, okT_or, okT_not, okT_k, okT_op, okT_ite, okT_chain, okT_call, okT_fld, okT_lc, okT_pop, okT_callK, okT_v, okTs0, okTs1, okI_val, okI_rng, okI_rng2, okI_zip, okI_enu, okI_slot, ok_pass, ok_brk, ok_cont, ok_expr, ok_set, ok_par, ok_unp, ok_augA, ok_seti, ok_setf, ok_app, ok_ifS, ok_for, ok_whl, ok_ret, late_k, late_op, late_and_, late_or_, late_not_, late_ite, late_chain, late_call, late_fld, late_met, late_sl, late_lc, late_pop, late_mv, late_callK, late_mkK, late_v, late_nil, get_c0, get_cs, List.set_cons_zero, List.set_cons_succ, stK_n, setKs_nil, setKs_n, Option.bind_some, Option.map_some, Option.some.injEq, exists_eq_left', exists_eq_left, pr_call, pr_fi, List.append_nil, List.cons_append, List.nil_append, List.map_cons, List.map_nil, List.replicate_succ, List.replicate_zero, D.int.injEq, D.bl.injEq, D.lst.injEq, D.str.injEq, D.tup.injEq, pd_sub, pd_eqI, pd_eqB, pd_eqS, pd_neI, pd_neB, pd_neS, pd_ltI, pd_leI, pd_gtI, pd_geI, pd_leS, pd_isN, pd_intI, pd_list, pd_listT, pd_tuple, pd_dct, truth, isNonD, reduceCtorEq, if_true, if_false, reduceIte, Bool.false_eq_true, Bool.not_true, Bool.not_false, List.length_cons, List.length_nil, true_and, and_true, exists_const, exists_eq', List.headD_cons, pd_l0, pd_t0, pd_l1, pd_t1, pd_l2, pd_t2, pd_l3, pd_t3, pd_l4, pd_t4, pd_l5, pd_t5, pd_l6, pd_t6, pd_l7, pd_t7, pd_l8, pd_t8, pd_l9, pd_t9, pd_l10, pd_t10, pd_l11, pd_t11, pd_l12, pd_t12, exists_eq, ok_own, okT_own, late_own, List.getElem?_cons_zero, List.getElem?_cons_succ, nx_ret, wipeE, backE, endQ, Fi.io, outsOf, isM, List.headD_cons, List.tail_cons, back, pickE, pick]
    refine ⟨_, rngOk (by decide) (by decide), ?_⟩
    refine lcL_ok (fun ys e acc => ∃ (rows : List (Nat × Nat)) (t' : D) (z : Option D), e = [some (.scr ns), some t', some x, x3, x4, x5, x6, x7, x8, x9, x10, x11, x12, x13, x14, x15, x16, z, x18] ∧ (∀ r ∈ rows, Rw r) ∧ acc = rows.map rowD ∧ rows.length + ys.length = 5 ∧ Bag (100 * xs.length + 100 - 2 * rows.length) t') ?_ ?_ _ _ _ ⟨[], b, _, rfl, (fun _ h => nomatch h), rfl, by simp, hb.mono (by simp; omega)⟩
    · rintro y ys e acc ⟨rows, t2, z, rfl, hw, rfl, hlen, hb2⟩
      refine ⟨rfl, _, rfl, ?_⟩
      rw [List.length_cons] at hlen
      simp only [ok_v, ok_k, ok_op, ok_and, ok_or, ok_not, ok_if, ok_chain, ok_call, ok_callK, ok_mkK, ok_fld, ok_met, ok_sl, ok_mv, ok_lc, ok_pop, ok_es0, ok_es, ok_o0, ok_o1, okT_and, okT_or, okT_not, okT_k, okT_op, okT_ite, okT_chain, okT_call, okT_fld, okT_lc, okT_pop, okT_callK, okT_v, okTs0, okTs1, okI_val, okI_rng, okI_rng2, okI_zip, okI_enu, okI_slot, ok_pass, ok_brk, ok_cont, ok_expr, ok_set, ok_par, ok_unp, ok_augA, ok_seti, ok_setf, ok_app, ok_ifS, ok_for, ok_whl, ok_ret, late_k, late_op, late_and_, late_or_, late_not_, late_ite, late_chain, late_call, late_fld, late_met, late_sl, late_lc, late_pop, late_mv, late_callK, late_mkK, late_v, late_nil, get_c0, get_cs, List.set_cons_zero, List.set_cons_succ, stK_n, setKs_nil, setKs_n, Option.bind_some, Option.map_some, Option.some.injEq, exists_eq_left', exists_eq_left, pr_call, pr_fi, List.append_nil, List.cons_append, List.nil_append, List.map_cons, List.map_nil, List.replicate_succ, List.replicate_zero, D.int.injEq, D.bl.injEq, D.lst.injEq, D.str.injEq, D.tup.injEq, pd_sub, pd_eqI, pd_eqB, pd_eqS, pd_neI, pd_neB, pd_neS, pd_ltI, pd_leI, pd_gtI, pd_geI, pd_leS, pd_isN, pd_intI, pd_list, pd_listT, pd_tuple, pd_dct, truth, isNonD, reduceCtorEq, if_true, if_false, reduceIte, Bool.false_eq_true, Bool.not_true, Bool.not_false, List.length_cons, List.length_nil, true_and, and_true, exists_const, exists_eq', List.headD_cons, pd_l0, pd_t0, pd_l1, pd_t1, pd_l2, pd_t2, pd_l3, pd_t3, pd_l4, pd_t4, pd_l5, pd_t5, pd_l6, pd_t6, pd_l7, pd_t7, pd_l8, pd_t8, pd_l9, pd_t9, pd_l10, pd_t10, pd_l11, pd_t11, pd_l12, pd_t12, exists_eq, ok_own, okT_own, late_own, List.getElem?_cons_zero, List.getElem?_cons_succ, nx_ret, wipeE, backE, endQ, Fi.io, outsOf, isM, List.headD_cons, List.tail_cons, back, pickE, pick]
      refine (pull_ok d5 hb2 (by omega) (by decide) (by decide +kernel)).imp ?_
      rintro _ _ ⟨q1, t3, rfl, rfl, u0, u1, hb3⟩
      simp only [ok_v, ok_k, ok_op, ok_and, ok_or, ok_not, ok_if, ok_chain, ok_call, ok_callK, ok_mkK, ok_fld, ok_met, ok_sl, ok_mv, ok_lc, ok_pop, ok_es0, ok_es, ok_o0, ok_o1, okT_and, okT_or, okT_not, okT_k, okT_op, okT_ite, okT_chain, okT_call, okT_fld, okT_lc, okT_pop, okT_callK, okT_v, okTs0, okTs1, okI_val, okI_rng, okI_rng2, okI_zip, okI_enu, okI_slot, ok_pass, ok_brk, ok_cont, ok_expr, ok_set, ok_par, ok_unp, ok_augA, ok_seti, ok_setf, ok_app, ok_ifS, ok_for, ok_whl, ok_ret, late_k, late_op, late_and_, late_or_, late_not_, late_ite, late_chain, late_call, late_fld, late_met, late_sl, late_lc, late_pop, late_mv, late_callK, late_mkK, late_v, late_nil, get_c0, get_cs, List.set_cons_zero, List.set_cons_succ, stK_n, setKs_nil, setKs_n, Option.bind_some, Option.map_some, Option.some.injEq, exists_eq_left', exists_eq_left, pr_call, pr_fi, List.append_nil, List.cons_append, List.nil_append, List.map_cons, List.map_nil, List.replicate_succ, List.replicate_zero, D.int.injEq, D.bl.injEq, D.lst.injEq, D.str.injEq, D.tup.injEq, pd_sub, pd_eqI, pd_eqB, pd_eqS, pd_neI, pd_neB, pd_neS, pd_ltI, pd_leI, pd_gtI, pd_geI, pd_leS, pd_isN, pd_intI, pd_list, pd_listT, pd_tuple, pd_dct, truth, isNonD, reduceCtorEq, if_true, if_false, reduceIte, Bool.false_eq_true, Bool.not_true, Bool.not_false, List.length_cons, List.length_nil, true_and, and_true, exists_const, exists_eq', List.headD_cons, pd_l0, pd_t0, pd_l1, pd_t1, pd_l2, pd_t2, pd_l3, pd_t3, pd_l4, pd_t4, pd_l5, pd_t5, pd_l6, pd_t6, pd_l7, pd_t7, pd_l8, pd_t8, pd_l9, pd_t9, pd_l10, pd_t10, pd_l11, pd_t11, pd_l12, pd_t12, exists_eq, ok_own, okT_own, late_own, List.getElem?_cons_zero, List.getElem?_cons_succ, nx_ret, wipeE, backE, endQ, Fi.io, outsOf, isM, List.headD_cons, List.tail_cons, back, pickE, pick, f5]
      refine (pull_ok d5 hb3 (by omega) (by decide) (by decide +kernel)).imp ?_
      rintro _ _ ⟨q2, t4, rfl, rfl, v0, v1, hb4⟩
      obtain ⟨m1, rfl⟩ := Int.eq_ofNat_of_zero_le u0
      obtain ⟨m2, rfl⟩ := Int.eq_ofNat_of_zero_le v0
      simp only [ok_v, ok_k, ok_op, ok_and, ok_or, ok_not, ok_if, ok_chain, ok_call, ok_callK, ok_mkK, ok_fld, ok_met, ok_sl, ok_mv, ok_lc, ok_pop, ok_es0, ok_es, ok_o0, ok_o1, okT_and, okT_or, okT_not, okT_k, okT_op, okT_ite, okT_chain, okT_call, okT_fld, okT_lc, okT_pop, okT_callK, okT_v, okTs0, okTs1, okI_val, okI_rng, okI_rng2, okI_zip, okI_enu, okI_slot, ok_pass, ok_brk, ok_cont, ok_expr, ok_set, ok_par, ok_unp, ok_augA, ok_seti, ok_setf, ok_app, ok_ifS, ok_for, ok_whl, ok_ret, late_k, late_op, late_and_, late_or_, late_not_, late_ite, late_chain, late_call, late_fld, late_met, late_sl, late_lc, late_pop, late_mv, late_callK, late_mkK, late_v, late_nil, get_c0, get_cs, List.set_cons_zero, List.set_cons_succ, stK_n, setKs_nil, setKs_n, Option.bind_some, Option.map_some, Option.some.injEq, exists_eq_left', exists_eq_left, pr_call, pr_fi, List.append_nil, List.cons_append, List.nil_append, List.map_cons, List.map_nil, List.replicate_succ, List.replicate_zero, D.int.injEq, D.bl.injEq, D.lst.injEq, D.str.injEq, D.tup.injEq, pd_sub, pd_eqI, pd_eqB, pd_eqS, pd_neI, pd_neB, pd_neS, pd_ltI, pd_leI, pd_gtI, pd_geI, pd_leS, pd_isN, pd_intI, pd_list, pd_listT, pd_tuple, pd_dct, truth, isNonD, reduceCtorEq, if_true, if_false, reduceIte, Bool.false_eq_true, Bool.not_true, Bool.not_false, List.length_cons, List.length_nil, true_and, and_true, exists_const, exists_eq', List.headD_cons, pd_l0, pd_t0, pd_l1, pd_t1, pd_l2, pd_t2, pd_l3, pd_t3, pd_l4, pd_t4, pd_l5, pd_t5, pd_l6, pd_t6, pd_l7, pd_t7, pd_l8, pd_t8, pd_l9, pd_t9, pd_l10, pd_t10, pd_l11, pd_t11, pd_l12, pd_t12, exists_eq, ok_own, okT_own, late_own, List.getElem?_cons_zero, List.getElem?_cons_succ, nx_ret, wipeE, backE, endQ, Fi.io, outsOf, isM, List.headD_cons, List.tail_cons, back, pickE, pick, f5, pd_addI]
      refine ⟨small_le (by simp; omega), rows ++ [(m1, m2 + 1)], t4, _, rfl, fun r hr => ?_, ?_, by simp; omega, hb4.mono (by simp; omega)⟩
      · rcases List.mem_append.mp hr with hr | hr
        · exact hw r hr
        · simp at hr
          subst hr
          exact ⟨by show m1 ≤ 30; omega, by show 1 ≤ m2 + 1; omega, by show m2 + 1 ≤ 30; omega⟩
      · rw [List.map_append]
        congr 1
        simp only [List.map_cons, List.map_nil, rowD]
        rw [show (1 : Int) + (m2 : Int) = ((m2 + 1 : Nat) : Int) by omega]
    rintro e acc ⟨rows, t2, z, rfl, hw, rfl, hlen, hb2⟩
    have hlen : rows.length = 5 := by simpa using hlen
    have hb2 : Bag (100 * xs.length + 90) t2 := hb2.mono (by omega)
    match rows, hlen with
    | [(t0, b0), (t1, b1), (t5, b5), (t3, b3), (t4, b4)], _ =>
    obtain ⟨w0a, w0b, w0c⟩ := hw (t0, b0) (by simp)
    obtain ⟨w1a, w1b, w1c⟩ := hw (t1, b1) (by simp)
    obtain ⟨w2a, w2b, w2c⟩ := hw (t5, b5) (by simp)
    obtain ⟨w3a, w3b, w3c⟩ := hw (t3, b3) (by simp)
    obtain ⟨w4a, w4b, w4c⟩ := hw (t4, b4) (by simp)
    simp only at w0a w0b w0c w1a w1b w1c w2a w2b w2c w3a w3b w3c w4a w4b w4c
    refine ⟨rfl, ?_⟩
    simp only [ok_v, ok_k, ok_op, ok_and, ok_or, ok_not, ok_if, ok_chain, ok_call, ok_callK, ok_mkK, ok_fld, ok_met, ok_sl, ok_mv, ok_lc, ok_pop, ok_es0, ok_es, ok_o0, ok_o1, okT_and, okT_or, okT_not, okT_k, okT_op, okT_ite, okT_chain, okT_call, okT_fld, okT_lc, okT_pop, okT_callK, okT_v, okTs0, okTs1, okI_val, okI_rng, okI_rng2, okI_zip, okI_enu, okI_slot, ok_pass, ok_brk, ok_cont, ok_expr, ok_set, ok_par, ok_unp, ok_augA, ok_seti, ok_setf, ok_app, ok_ifS, ok_for, ok_whl, ok_ret, late_k, late_op, late_and_, late_or_, late_not_, late_ite, late_chain, late_call, late_fld, late_met, late_sl, late_lc, late_pop, late_mv, late_callK, late_mkK, late_v, late_nil, get_c0, get_cs, List.set_cons_zero, List.set_cons_succ, stK_n, setKs_nil, setKs_n, Option.bind_some, Option.map_some, Option.some.injEq, exists_eq_left', exists_eq_left, pr_call, pr_fi, List.append_nil, List.cons_append, List.nil_append, List.map_cons, List.map_nil, List.replicate_succ, List.replicate_zero, D.int.injEq, D.bl.injEq, D.lst.injEq, D.str.injEq, D.tup.injEq, pd_sub, pd_eqI, pd_eqB, pd_eqS, pd_neI, pd_neB, pd_neS, pd_ltI, pd_leI, pd_gtI, pd_geI, pd_leS, pd_isN, pd_intI, pd_list, pd_listT, pd_tuple, pd_dct, truth, isNonD, reduceCtorEq, if_true, if_false, reduceIte, Bool.false_eq_true, Bool.not_true, Bool.not_false, List.length_cons, List.length_nil, true_and, and_true, exists_const, exists_eq', List.headD_cons, pd_l0, pd_t0, pd_l1, pd_t1, pd_l2, pd_t2, pd_l3, pd_t3, pd_l4, pd_t4, pd_l5, pd_t5, pd_l6, pd_t6, pd_l7, pd_t7, pd_l8, pd_t8, pd_l9, pd_t9, pd_l10, pd_t10, pd_l11, pd_t11, pd_l12, pd_t12, exists_eq, ok_own, okT_own, late_own, List.getElem?_cons_zero, List.getElem?_cons_succ, nx_ret, wipeE, backE, endQ, Fi.io, outsOf, isM, List.headD_cons, List.tail_cons, back, pickE, pick]
    have hwr := hw
    -- two of them, a number
    refine st_nx ?_
    simp only [ok_v, ok_k, ok_op, ok_and, ok_or, ok_not, ok_if, ok_chain, ok_call, ok_callK, ok_mkK, ok_fld, ok_met, ok_sl, ok_mv, ok_lc, ok_pop, ok_es0, ok_es, ok_o0, ok_o1, okT_and, okT_or, okT_not, okT_k, okT_op, okT_ite, okT_chain, okT_call, okT_fld, okT_lc, okT_pop, okT_callK, okT_v, okTs0, okTs1, okI_val, okI_rng, okI_rng2, okI_zip, okI_enu, okI_slot, ok_pass, ok_brk, ok_cont, ok_expr, ok_set, ok_par, ok_unp, ok_augA, ok_seti, ok_setf, ok_app, ok_ifS, ok_for, ok_whl, ok_ret, late_k, late_op, late_and_, late_or_, late_not_, late_ite, late_chain, late_call, late_fld, late_met, late_sl, late_lc, late_pop, late_mv, late_callK, late_mkK, late_v, late_nil, get_c0, get_cs, List.set_cons_zero, List.set_cons_succ, stK_n, setKs_nil, setKs_n, Option.bind_some, Option.map_some, Option.some.injEq, exists_eq_left', exists_eq_left, pr_call, pr_fi, List.append_nil, List.cons_append, List.nil_append, List.map_cons, List.map_nil, List.replicate_succ, List.replicate_zero, D.int.injEq, D.bl.injEq, D.lst.injEq, D.str.injEq, D.tup.injEq, pd_sub, pd_eqI, pd_eqB, pd_eqS, pd_neI, pd_neB, pd_neS, pd_ltI, pd_leI, pd_gtI, pd_geI, pd_leS, pd_isN, pd_intI, pd_list, pd_listT, pd_tuple, pd_dct, truth, isNonD, reduceCtorEq, if_true, if_false, reduceIte, Bool.false_eq_true, Bool.not_true, Bool.not_false, List.length_cons, List.length_nil, true_and, and_true, exists_const, exists_eq', List.headD_cons, pd_l0, pd_t0, pd_l1, pd_t1, pd_l2, pd_t2, pd_l3, pd_t3, pd_l4, pd_t4, pd_l5, pd_t5, pd_l6, pd_t6, pd_l7, pd_t7, pd_l8, pd_t8, pd_l9, pd_t9, pd_l10, pd_t10, pd_l11, pd_t11, pd_l12, pd_t12, exists_eq, ok_own, okT_own, late_own, List.getElem?_cons_zero, List.getElem?_cons_succ, nx_ret, wipeE, backE, endQ, Fi.io, outsOf, isM, List.headD_cons, List.tail_cons, back, pickE, pick, List.map_cons, List.map_nil, rowD, idx0, idl1, p6]
    refine (pull_ok d5 hb2 (by omega) (by decide) (by decide +kernel)).imp ?_
    rintro _ _ ⟨q1, t6, rfl, rfl, u0, u1, hb3⟩
    obtain ⟨m1, rfl⟩ := Int.eq_ofNat_of_zero_le u0
    simp only [ok_v, ok_k, ok_op, ok_and, ok_or, ok_not, ok_if, ok_chain, ok_call, ok_callK, ok_mkK, ok_fld, ok_met, ok_sl, ok_mv, ok_lc, ok_pop, ok_es0, ok_es, ok_o0, ok_o1, okT_and, okT_or, okT_not, okT_k, okT_op, okT_ite, okT_chain, okT_call, okT_fld, okT_lc, okT_pop, okT_callK, okT_v, okTs0, okTs1, okI_val, okI_rng, okI_rng2, okI_zip, okI_enu, okI_slot, ok_pass, ok_brk, ok_cont, ok_expr, ok_set, ok_par, ok_unp, ok_augA, ok_seti, ok_setf, ok_app, ok_ifS, ok_for, ok_whl, ok_ret, late_k, late_op, late_and_, late_or_, late_not_, late_ite, late_chain, late_call, late_fld, late_met, late_sl, late_lc, late_pop, late_mv, late_callK, late_mkK, late_v, late_nil, get_c0, get_cs, List.set_cons_zero, List.set_cons_succ, stK_n, setKs_nil, setKs_n, Option.bind_some, Option.map_some, Option.some.injEq, exists_eq_left', exists_eq_left, pr_call, pr_fi, List.append_nil, List.cons_append, List.nil_append, List.map_cons, List.map_nil, List.replicate_succ, List.replicate_zero, D.int.injEq, D.bl.injEq, D.lst.injEq, D.str.injEq, D.tup.injEq, pd_sub, pd_eqI, pd_eqB, pd_eqS, pd_neI, pd_neB, pd_neS, pd_ltI, pd_leI, pd_gtI, pd_geI, pd_leS, pd_isN, pd_intI, pd_list, pd_listT, pd_tuple, pd_dct, truth, isNonD, reduceCtorEq, if_true, if_false, reduceIte, Bool.false_eq_true, Bool.not_true, Bool.not_false, List.length_cons, List.length_nil, true_and, and_true, exists_const, exists_eq', List.headD_cons, pd_l0, pd_t0, pd_l1, pd_t1, pd_l2, pd_t2, pd_l3, pd_t3, pd_l4, pd_t4, pd_l5, pd_t5, pd_l6, pd_t6, pd_l7, pd_t7, pd_l8, pd_t8, pd_l9, pd_t9, pd_l10, pd_t10, pd_l11, pd_t11, pd_l12, pd_t12, exists_eq, ok_own, okT_own, late_own, List.getElem?_cons_zero, List.getElem?_cons_succ, nx_ret, wipeE, backE, endQ, Fi.io, outsOf, isM, List.headD_cons, List.tail_cons, back, pickE, pick, f5]
    refine (any_ok d2 d5 hb3 (by omega) (by simp) (by simp)).imp ?_
    rintro nu _ ⟨hnu, t7, rfl, hb4⟩
    obtain ⟨c, rfl, hc⟩ : ∃ c : Nat, nu = .int (c : Int) ∧ c < 1000000 := by
      simp only [List.mem_cons, List.not_mem_nil, or_false] at hnu
      rcases hnu with rfl | rfl | rfl
      · exact ⟨0, rfl, by decide⟩
      · exact ⟨1, rfl, by decide⟩
      · exact ⟨m1, rfl, by omega⟩
    simp only [ok_v, ok_k, ok_op, ok_and, ok_or, ok_not, ok_if, ok_chain, ok_call, ok_callK, ok_mkK, ok_fld, ok_met, ok_sl, ok_mv, ok_lc, ok_pop, ok_es0, ok_es, ok_o0, ok_o1, okT_and, okT_or, okT_not, okT_k, okT_op, okT_ite, okT_chain, okT_call, okT_fld, okT_lc, okT_pop, okT_callK, okT_v, okTs0, okTs1, okI_val, okI_rng, okI_rng2, okI_zip, okI_enu, okI_slot, ok_pass, ok_brk, ok_cont, ok_expr, ok_set, ok_par, ok_unp, ok_augA, ok_seti, ok_setf, ok_app, ok_ifS, ok_for, ok_whl, ok_ret, late_k, late_op, late_and_, late_or_, late_not_, late_ite, late_chain, late_call, late_fld, late_met, late_sl, late_lc, late_pop, late_mv, late_callK, late_mkK, late_v, late_nil, get_c0, get_cs, List.set_cons_zero, List.set_cons_succ, stK_n, setKs_nil, setKs_n, Option.bind_some, Option.map_some, Option.some.injEq, exists_eq_left', exists_eq_left, pr_call, pr_fi, List.append_nil, List.cons_append, List.nil_append, List.map_cons, List.map_nil, List.replicate_succ, List.replicate_zero, D.int.injEq, D.bl.injEq, D.lst.injEq, D.str.injEq, D.tup.injEq, pd_sub, pd_eqI, pd_eqB, pd_eqS, pd_neI, pd_neB, pd_neS, pd_ltI, pd_leI, pd_gtI, pd_geI, pd_leS, pd_isN, pd_intI, pd_list, pd_listT, pd_tuple, pd_dct, truth, isNonD, reduceCtorEq, if_true, if_false, reduceIte, Bool.false_eq_true, Bool.not_true, Bool.not_false, List.length_cons, List.length_nil, true_and, and_true, exists_const, exists_eq', List.headD_cons, pd_l0, pd_t0, pd_l1, pd_t1, pd_l2, pd_t2, pd_l3, pd_t3, pd_l4, pd_t4, pd_l5, pd_t5, pd_l6, pd_t6, pd_l7, pd_t7, pd_l8, pd_t8, pd_l9, pd_t9, pd_l10, pd_t10, pd_l11, pd_t11, pd_l12, pd_t12, exists_eq, ok_own, okT_own, late_own, List.getElem?_cons_zero, List.getElem?_cons_succ, nx_ret, wipeE, backE, endQ, Fi.io, outsOf, isM, List.headD_cons, List.tail_cons, back, pickE, pick, f2]
    have hb5 : Bag (100 * xs.length + 50) t7 := hb4.mono (by simp)
    have l30 : ∀ {z : Nat}, z ≤ 30 → z < 2 ^ 60 := fun h => Nat.lt_of_le_of_lt h (by decide)
    have l60 : ∀ {z : Nat}, z < 2 ^ 60 → z < 2 ^ 100 := fun h => Nat.lt_trans h (by decide)
    have lc : c < 2 ^ 60 := Nat.lt_trans hc (by decide)
    refine st_nx ?_
    simp only [ok_v, ok_k, ok_op, ok_and, ok_or, ok_not, ok_if, ok_chain, ok_call, ok_callK, ok_mkK, ok_fld, ok_met, ok_sl, ok_mv, ok_lc, ok_pop, ok_es0, ok_es, ok_o0, ok_o1, okT_and, okT_or, okT_not, okT_k, okT_op, okT_ite, okT_chain, okT_call, okT_fld, okT_lc, okT_pop, okT_callK, okT_v, okTs0, okTs1, okI_val, okI_rng, okI_rng2, okI_zip, okI_enu, okI_slot, ok_pass, ok_brk, ok_cont, ok_expr, ok_set, ok_par, ok_unp, ok_augA, ok_seti, ok_setf, ok_app, ok_ifS, ok_for, ok_whl, ok_ret, late_k, late_op, late_and_, late_or_, late_not_, late_ite, late_chain, late_call, late_fld, late_met, late_sl, late_lc, late_pop, late_mv, late_callK, late_mkK, late_v, late_nil, get_c0, get_cs, List.set_cons_zero, List.set_cons_succ, stK_n, setKs_nil, setKs_n, Option.bind_some, Option.map_some, Option.some.injEq, exists_eq_left', exists_eq_left, pr_call, pr_fi, List.append_nil, List.cons_append, List.nil_append, List.map_cons, List.map_nil, List.replicate_succ, List.replicate_zero, D.int.injEq, D.bl.injEq, D.lst.injEq, D.str.injEq, D.tup.injEq, pd_sub, pd_eqI, pd_eqB, pd_eqS, pd_neI, pd_neB, pd_neS, pd_ltI, pd_leI, pd_gtI, pd_geI, pd_leS, pd_isN, pd_intI, pd_list, pd_listT, pd_tuple, pd_dct, truth, isNonD, reduceCtorEq, if_true, if_false, reduceIte, Bool.false_eq_true, Bool.not_true, Bool.not_false, List.length_cons, List.length_nil, true_and, and_true, exists_const, exists_eq', List.headD_cons, pd_l0, pd_t0, pd_l1, pd_t1, pd_l2, pd_t2, pd_l3, pd_t3, pd_l4, pd_t4, pd_l5, pd_t5, pd_l6, pd_t6, pd_l7, pd_t7, pd_l8, pd_t8, pd_l9, pd_t9, pd_l10, pd_t10, pd_l11, pd_t11, pd_l12, pd_t12, exists_eq, ok_own, okT_own, late_own, List.getElem?_cons_zero, List.getElem?_cons_succ, nx_ret, wipeE, backE, endQ, Fi.io, outsOf, isM, List.headD_cons, List.tail_cons, back, pickE, pick, idt0, idt1, sh_eq h0]
    refine (mk39 w0b (l30 w0c)).imp ?_
    rintro _ _ ⟨rfl, rfl⟩
    refine ⟨rfl, _, _, rfl, ?_⟩
    simp only [ok_v, ok_k, ok_op, ok_and, ok_or, ok_not, ok_if, ok_chain, ok_call, ok_callK, ok_mkK, ok_fld, ok_met, ok_sl, ok_mv, ok_lc, ok_pop, ok_es0, ok_es, ok_o0, ok_o1, okT_and, okT_or, okT_not, okT_k, okT_op, okT_ite, okT_chain, okT_call, okT_fld, okT_lc, okT_pop, okT_callK, okT_v, okTs0, okTs1, okI_val, okI_rng, okI_rng2, okI_zip, okI_enu, okI_slot, ok_pass, ok_brk, ok_cont, ok_expr, ok_set, ok_par, ok_unp, ok_augA, ok_seti, ok_setf, ok_app, ok_ifS, ok_for, ok_whl, ok_ret, late_k, late_op, late_and_, late_or_, late_not_, late_ite, late_chain, late_call, late_fld, late_met, late_sl, late_lc, late_pop, late_mv, late_callK, late_mkK, late_v, late_nil, get_c0, get_cs, List.set_cons_zero, List.set_cons_succ, stK_n, setKs_nil, setKs_n, Option.bind_some, Option.map_some, Option.some.injEq, exists_eq_left', exists_eq_left, pr_call, pr_fi, List.append_nil, List.cons_append, List.nil_append, List.map_cons, List.map_nil, List.replicate_succ, List.replicate_zero, D.int.injEq, D.bl.injEq, D.lst.injEq, D.str.injEq, D.tup.injEq, pd_sub, pd_eqI, pd_eqB, pd_eqS, pd_neI, pd_neB, pd_neS, pd_ltI, pd_leI, pd_gtI, pd_geI, pd_leS, pd_isN, pd_intI, pd_list, pd_listT, pd_tuple, pd_dct, truth, isNonD, reduceCtorEq, if_true, if_false, reduceIte, Bool.false_eq_true, Bool.not_true, Bool.not_false, List.length_cons, List.length_nil, true_and, and_true, exists_const, exists_eq', List.headD_cons, pd_l0, pd_t0, pd_l1, pd_t1, pd_l2, pd_t2, pd_l3, pd_t3, pd_l4, pd_t4, pd_l5, pd_t5, pd_l6, pd_t6, pd_l7, pd_t7, pd_l8, pd_t8, pd_l9, pd_t9, pd_l10, pd_t10, pd_l11, pd_t11, pd_l12, pd_t12, exists_eq, ok_own, okT_own, late_own, List.getElem?_cons_zero, List.getElem?_cons_succ, nx_ret, wipeE, backE, endQ, Fi.io, outsOf, isM, List.headD_cons, List.tail_cons, back, pickE, pick, f3, List.drop_succ_cons, List.drop_zero, idt0, idt1, sh_eq h0]
    refine (mk39 w1b (l30 w1c)).imp ?_
    rintro _ _ ⟨rfl, rfl⟩
    refine ⟨rfl, _, _, rfl, ?_⟩
    simp only [ok_v, ok_k, ok_op, ok_and, ok_or, ok_not, ok_if, ok_chain, ok_call, ok_callK, ok_mkK, ok_fld, ok_met, ok_sl, ok_mv, ok_lc, ok_pop, ok_es0, ok_es, ok_o0, ok_o1, okT_and, okT_or, okT_not, okT_k, okT_op, okT_ite, okT_chain, okT_call, okT_fld, okT_lc, okT_pop, okT_callK, okT_v, okTs0, okTs1, okI_val, okI_rng, okI_rng2, okI_zip, okI_enu, okI_slot, ok_pass, ok_brk, ok_cont, ok_expr, ok_set, ok_par, ok_unp, ok_augA, ok_seti, ok_setf, ok_app, ok_ifS, ok_for, ok_whl, ok_ret, late_k, late_op, late_and_, late_or_, late_not_, late_ite, late_chain, late_call, late_fld, late_met, late_sl, late_lc, late_pop, late_mv, late_callK, late_mkK, late_v, late_nil, get_c0, get_cs, List.set_cons_zero, List.set_cons_succ, stK_n, setKs_nil, setKs_n, Option.bind_some, Option.map_some, Option.some.injEq, exists_eq_left', exists_eq_left, pr_call, pr_fi, List.append_nil, List.cons_append, List.nil_append, List.map_cons, List.map_nil, List.replicate_succ, List.replicate_zero, D.int.injEq, D.bl.injEq, D.lst.injEq, D.str.injEq, D.tup.injEq, pd_sub, pd_eqI, pd_eqB, pd_eqS, pd_neI, pd_neB, pd_neS, pd_ltI, pd_leI, pd_gtI, pd_geI, pd_leS, pd_isN, pd_intI, pd_list, pd_listT, pd_tuple, pd_dct, truth, isNonD, reduceCtorEq, if_true, if_false, reduceIte, Bool.false_eq_true, Bool.not_true, Bool.not_false, List.length_cons, List.length_nil, true_and, and_true, exists_const, exists_eq', List.headD_cons, pd_l0, pd_t0, pd_l1, pd_t1, pd_l2, pd_t2, pd_l3, pd_t3, pd_l4, pd_t4, pd_l5, pd_t5, pd_l6, pd_t6, pd_l7, pd_t7, pd_l8, pd_t8, pd_l9, pd_t9, pd_l10, pd_t10, pd_l11, pd_t11, pd_l12, pd_t12, exists_eq, ok_own, okT_own, late_own, List.getElem?_cons_zero, List.getElem?_cons_succ, nx_ret, wipeE, backE, endQ, Fi.io, outsOf, isM, List.headD_cons, List.tail_cons, back, pickE, pick, f3, List.drop_succ_cons, List.drop_zero]
    -- what is due
    have m01 : t0 * b1 ≤ 30 * 30 := Nat.mul_le_mul w0a w1c
    have m10 : t1 * b0 ≤ 30 * 30 := Nat.mul_le_mul w1a w0c
    have mbb : b0 * b1 ≤ 30 * 30 := Nat.mul_le_mul w0c w1c
    have mbb1 : 1 ≤ b0 * b1 := Nat.mul_pos w0b w1b
    have mtt : t0 * t1 ≤ 30 * 30 := Nat.mul_le_mul w0a w1a
    refine st_nx ?_
    simp only [ok_v, ok_k, ok_op, ok_and, ok_or, ok_not, ok_if, ok_chain, ok_call, ok_callK, ok_mkK, ok_fld, ok_met, ok_sl, ok_mv, ok_lc, ok_pop, ok_es0, ok_es, ok_o0, ok_o1, okT_and, okT_or, okT_not, okT_k, okT_op, okT_ite, okT_chain, okT_call, okT_fld, okT_lc, okT_pop, okT_callK, okT_v, okTs0, okTs1, okI_val, okI_rng, okI_rng2, okI_zip, okI_enu, okI_slot, ok_pass, ok_brk, ok_cont, ok_expr, ok_set, ok_par, ok_unp, ok_augA, ok_seti, ok_setf, ok_app, ok_ifS, ok_for, ok_whl, ok_ret, late_k, late_op, late_and_, late_or_, late_not_, late_ite, late_chain, late_call, late_fld, late_met, late_sl, late_lc, late_pop, late_mv, late_callK, late_mkK, late_v, late_nil, get_c0, get_cs, List.set_cons_zero, List.set_cons_succ, stK_n, setKs_nil, setKs_n, Option.bind_some, Option.map_some, Option.some.injEq, exists_eq_left', exists_eq_left, pr_call, pr_fi, List.append_nil, List.cons_append, List.nil_append, List.map_cons, List.map_nil, List.replicate_succ, List.replicate_zero, D.int.injEq, D.bl.injEq, D.lst.injEq, D.str.injEq, D.tup.injEq, pd_sub, pd_eqI, pd_eqB, pd_eqS, pd_neI, pd_neB, pd_neS, pd_ltI, pd_leI, pd_gtI, pd_geI, pd_leS, pd_isN, pd_intI, pd_list, pd_listT, pd_tuple, pd_dct, truth, isNonD, reduceCtorEq, if_true, if_false, reduceIte, Bool.false_eq_true, Bool.not_true, Bool.not_false, List.length_cons, List.length_nil, true_and, and_true, exists_const, exists_eq', List.headD_cons, pd_l0, pd_t0, pd_l1, pd_t1, pd_l2, pd_t2, pd_l3, pd_t3, pd_l4, pd_t4, pd_l5, pd_t5, pd_l6, pd_t6, pd_l7, pd_t7, pd_l8, pd_t8, pd_l9, pd_t9, pd_l10, pd_t10, pd_l11, pd_t11, pd_l12, pd_t12, exists_eq, ok_own, okT_own, late_own, List.getElem?_cons_zero, List.getElem?_cons_succ, nx_ret, wipeE, backE, endQ, Fi.io, outsOf, isM, List.headD_cons, List.tail_cons, back, pickE, pick, idt0, idt1, mul_nat (l60 (l30 w0a)) (l60 (l30 w1c)), mul_nat (l60 (l30 w1a)) (l60 (l30 w0c)), mul_nat (l60 (l30 w0c)) (l60 (l30 w1c)), mul_nat (l60 (l30 w0a)) (l60 (l30 w1a)), add_nat]
    have A1 : (pg.prOf (pg.callN 10000000000000000000000000000000000000000 39)).ownD .add [pw t0 b0, pw t1 b1] = some (pw (t0 * b1 + t1 * b0) (b0 * b1)) := pO_add (n := 36) P hK w0b w1b (l30 w0a) (l30 w0c) (l30 w1a) (l30 w1c)
    have A2 : (pg.prOf (pg.callN 10000000000000000000000000000000000000000 39)).ownD .add [pw t1 b1, pw t0 b0] = some (pw (t0 * b1 + t1 * b0) (b0 * b1)) := by
      rw [Nat.add_comm (t0 * b1), Nat.mul_comm b0 b1]
      exact pO_add (n := 36) P hK w1b w0b (l30 w1a) (l30 w1c) (l30 w0a) (l30 w0c)
    have A3 : (pg.prOf (pg.callN 10000000000000000000000000000000000000000 39)).ownD .mul [pw t0 b0, pw t1 b1] = some (pw (t0 * t1) (b0 * b1)) := o_mul' (n := 36) P hK w0b w1b (l30 w0a) (l30 w0c) (l30 w1a) (l30 w1c)
    have A4 : (pg.prOf (pg.callN 10000000000000000000000000000000000000000 39)).ownD .mul [pw t1 b1, pw t0 b0] = some (pw (t0 * t1) (b0 * b1)) := by
      rw [Nat.mul_comm t0 t1, Nat.mul_comm b0 b1]
      exact o_mul' (n := 36) P hK w1b w0b (l30 w1a) (l30 w1c) (l30 w0a) (l30 w0c)
    have A5 : (pg.prOf (pg.callN 10000000000000000000000000000000000000000 39)).ownD .add [pw t0 b0, .int (c : Int)] = some (pw (t0 + c * b0) b0) := o_addI (n := 36) P hK w0b (l30 w0a) (l30 w0c) lc
    have A6 : (pg.prOf (pg.callN 10000000000000000000000000000000000000000 39)).ownD .add [.int (c : Int), pw t0 b0] = some (pw (t0 + c * b0) b0) := o_raddI (n := 35) P hK w0b (l30 w0a) (l30 w0c) lc
    have A7 : (pg.prOf (pg.callN 10000000000000000000000000000000000000000 39)).ownD .mul [pw t0 b0, .int (c : Int)] = some (pw (t0 * c) b0) := o_mulI (n := 36) P hK w0b (l30 w0a) (l30 w0c) lc
    have A8 : (pg.prOf (pg.callN 10000000000000000000000000000000000000000 39)).ownD .mul [.int (c : Int), pw t0 b0] = some (pw (t0 * c) b0) := o_rmulI (n := 35) P hK w0b (l30 w0a) (l30 w0c) lc
    refine st_nx ?_
    simp only [ok_v, ok_k, ok_op, ok_and, ok_or, ok_not, ok_if, ok_chain, ok_call, ok_callK, ok_mkK, ok_fld, ok_met, ok_sl, ok_mv, ok_lc, ok_pop, ok_es0, ok_es, ok_o0, ok_o1, okT_and, okT_or, okT_not, okT_k, okT_op, okT_ite, okT_chain, okT_call, okT_fld, okT_lc, okT_pop, okT_callK, okT_v, okTs0, okTs1, okI_val, okI_rng, okI_rng2, okI_zip, okI_enu, okI_slot, ok_pass, ok_brk, ok_cont, ok_expr, ok_set, ok_par, ok_unp, ok_augA, ok_seti, ok_setf, ok_app, ok_ifS, ok_for, ok_whl, ok_ret, late_k, late_op, late_and_, late_or_, late_not_, late_ite, late_chain, late_call, late_fld, late_met, late_sl, late_lc, late_pop, late_mv, late_callK, late_mkK, late_v, late_nil, get_c0, get_cs, List.set_cons_zero, List.set_cons_succ, stK_n, setKs_nil, setKs_n, Option.bind_some, Option.map_some, Option.some.injEq, exists_eq_left', exists_eq_left, pr_call, pr_fi, List.append_nil, List.cons_append, List.nil_append, List.map_cons, List.map_nil, List.replicate_succ, List.replicate_zero, D.int.injEq, D.bl.injEq, D.lst.injEq, D.str.injEq, D.tup.injEq, pd_sub, pd_eqI, pd_eqB, pd_eqS, pd_neI, pd_neB, pd_neS, pd_ltI, pd_leI, pd_gtI, pd_geI, pd_leS, pd_isN, pd_intI, pd_list, pd_listT, pd_tuple, pd_dct, truth, isNonD, reduceCtorEq, if_true, if_false, reduceIte, Bool.false_eq_true, Bool.not_true, Bool.not_false, List.length_cons, List.length_nil, true_and, and_true, exists_const, exists_eq', List.headD_cons, pd_l0, pd_t0, pd_l1, pd_t1, pd_l2, pd_t2, pd_l3, pd_t3, pd_l4, pd_t4, pd_l5, pd_t5, pd_l6, pd_t6, pd_l7, pd_t7, pd_l8, pd_t8, pd_l9, pd_t9, pd_l10, pd_t10, pd_l11, pd_t11, pd_l12, pd_t12, exists_eq, ok_own, okT_own, late_own, List.getElem?_cons_zero, List.getElem?_cons_succ, nx_ret, wipeE, backE, endQ, Fi.io, outsOf, isM, List.headD_cons, List.tail_cons, back, pickE, pick, A1, A2, A3, A4, A5, A6, A7, A8]
    refine st_nx ?_
    simp only [ok_v, ok_k, ok_op, ok_and, ok_or, ok_not, ok_if, ok_chain, ok_call, ok_callK, ok_mkK, ok_fld, ok_met, ok_sl, ok_mv, ok_lc, ok_pop, ok_es0, ok_es, ok_o0, ok_o1, okT_and, okT_or, okT_not, okT_k, okT_op, okT_ite, okT_chain, okT_call, okT_fld, okT_lc, okT_pop, okT_callK, okT_v, okTs0, okTs1, okI_val, okI_rng, okI_rng2, okI_zip, okI_enu, okI_slot, ok_pass, ok_brk, ok_cont, ok_expr, ok_set, ok_par, ok_unp, ok_augA, ok_seti, ok_setf, ok_app, ok_ifS, ok_for, ok_whl, ok_ret, late_k, late_op, late_and_, late_or_, late_not_, late_ite, late_chain, late_call, late_fld, late_met, late_sl, late_lc, late_pop, late_mv, late_callK, late_mkK, late_v, late_nil, get_c0, get_cs, List.set_cons_zero, List.set_cons_succ, stK_n, setKs_nil, setKs_n, Option.bind_some, Option.map_some, Option.some.injEq, exists_eq_left', exists_eq_left, pr_call, pr_fi, List.append_nil, List.cons_append, List.nil_append, List.map_cons, List.map_nil, List.replicate_succ, List.replicate_zero, D.int.injEq, D.bl.injEq, D.lst.injEq, D.str.injEq, D.tup.injEq, pd_sub, pd_eqI, pd_eqB, pd_eqS, pd_neI, pd_neB, pd_neS, pd_ltI, pd_leI, pd_gtI, pd_geI, pd_leS, pd_isN, pd_intI, pd_list, pd_listT, pd_tuple, pd_dct, truth, isNonD, reduceCtorEq, if_true, if_false, reduceIte, Bool.false_eq_true, Bool.not_true, Bool.not_false, List.length_cons, List.length_nil, true_and, and_true, exists_const, exists_eq', List.headD_cons, pd_l0, pd_t0, pd_l1, pd_t1, pd_l2, pd_t2, pd_l3, pd_t3, pd_l4, pd_t4, pd_l5, pd_t5, pd_l6, pd_t6, pd_l7, pd_t7, pd_l8, pd_t8, pd_l9, pd_t9, pd_l10, pd_t10, pd_l11, pd_t11, pd_l12, pd_t12, exists_eq, ok_own, okT_own, late_own, List.getElem?_cons_zero, List.getElem?_cons_succ, nx_ret, wipeE, backE, endQ, Fi.io, outsOf, isM, List.headD_cons, List.tail_cons, back, pickE, pick, idt0, idt1, mul_nat (l60 lc) (l60 (l30 w0c)), mul_nat (l60 (l30 w0a)) (l60 lc), add_nat]
    refine st_nx ?_
    simp only [ok_v, ok_k, ok_op, ok_and, ok_or, ok_not, ok_if, ok_chain, ok_call, ok_callK, ok_mkK, ok_fld, ok_met, ok_sl, ok_mv, ok_lc, ok_pop, ok_es0, ok_es, ok_o0, ok_o1, okT_and, okT_or, okT_not, okT_k, okT_op, okT_ite, okT_chain, okT_call, okT_fld, okT_lc, okT_pop, okT_callK, okT_v, okTs0, okTs1, okI_val, okI_rng, okI_rng2, okI_zip, okI_enu, okI_slot, ok_pass, ok_brk, ok_cont, ok_expr, ok_set, ok_par, ok_unp, ok_augA, ok_seti, ok_setf, ok_app, ok_ifS, ok_for, ok_whl, ok_ret, late_k, late_op, late_and_, late_or_, late_not_, late_ite, late_chain, late_call, late_fld, late_met, late_sl, late_lc, late_pop, late_mv, late_callK, late_mkK, late_v, late_nil, get_c0, get_cs, List.set_cons_zero, List.set_cons_succ, stK_n, setKs_nil, setKs_n, Option.bind_some, Option.map_some, Option.some.injEq, exists_eq_left', exists_eq_left, pr_call, pr_fi, List.append_nil, List.cons_append, List.nil_append, List.map_cons, List.map_nil, List.replicate_succ, List.replicate_zero, D.int.injEq, D.bl.injEq, D.lst.injEq, D.str.injEq, D.tup.injEq, pd_sub, pd_eqI, pd_eqB, pd_eqS, pd_neI, pd_neB, pd_neS, pd_ltI, pd_leI, pd_gtI, pd_geI, pd_leS, pd_isN, pd_intI, pd_list, pd_listT, pd_tuple, pd_dct, truth, isNonD, reduceCtorEq, if_true, if_false, reduceIte, Bool.false_eq_true, Bool.not_true, Bool.not_false, List.length_cons, List.length_nil, true_and, and_true, exists_const, exists_eq', List.headD_cons, pd_l0, pd_t0, pd_l1, pd_t1, pd_l2, pd_t2, pd_l3, pd_t3, pd_l4, pd_t4, pd_l5, pd_t5, pd_l6, pd_t6, pd_l7, pd_t7, pd_l8, pd_t8, pd_l9, pd_t9, pd_l10, pd_t10, pd_l11, pd_t11, pd_l12, pd_t12, exists_eq, ok_own, okT_own, late_own, List.getElem?_cons_zero, List.getElem?_cons_succ, nx_ret, wipeE, backE, endQ, Fi.io, outsOf, isM, List.headD_cons, List.tail_cons, back, pickE, pick]
    obtain ⟨ps, hps⟩ : ∃ ps : List (Nat × Nat), ps = [(t0 * b1 + t1 * b0, b0 * b1), (t0 * b1 + t1 * b0, b0 * b1), (t0 * t1, b0 * b1), (t0 * t1, b0 * b1), (t0 + c * b0, b0), (t0 + c * b0, b0), (t0 * c, b0), (t0 * c, b0)] := ⟨_, rfl⟩
    have hpl : ps.length = 8 := by rw [hps]; rfl
    have hpb : ∀ r ∈ ps, 1 ≤ r.2 ∧ r.2 < 2 ^ 60 := by
      rw [hps]
      intro r hr
      simp only [List.mem_cons, List.not_mem_nil, or_false] at hr
      have lbb : b0 * b1 < 2 ^ 60 := Nat.lt_of_le_of_lt mbb (by decide)
      rcases hr with rfl | rfl | rfl | rfl | rfl | rfl | rfl | rfl <;> first | exact ⟨mbb1, lbb⟩ | exact ⟨w0b, l30 w0c⟩
    refine ⟨_, rngOk (by decide) (by decide), ?_⟩
    refine forL_ok (fun ys e => (∀ y ∈ ys, ∃ k : Nat, k < 8 ∧ y = .int (k : Int)) ∧ ∃ z, e = [some (.scr ns), some t7, some x, some (.lst ([(t0, b0), (t1, b1), (t5, b5), (t3, b3), (t4, b4)].map rowD)), some (rowD (t0, b0)), some (rowD (t1, b1)), some (.int (c : Int)), some (pw t0 b0), some (pw t1 b1), some (rowD (t0 * b1 + t1 * b0, b0 * b1)), some (rowD (t0 * t1, b0 * b1)), some (.lst (ps.map pwOf)), some (.lst (ps.map rowD)), z, x14, x15, x16, x17, x18]) ?_ ?_ _ _ ⟨?_, ?_⟩
    · rintro y ys e ⟨hy, z, rfl⟩
      obtain ⟨k, hk, rfl⟩ := hy y (List.mem_cons_self ..)
      have hk2 : k < ps.length := by omega
      obtain ⟨q1, q2⟩ := hpb ps[k] (List.getElem_mem hk2)
      have i1 : pD .idx [.lst (ps.map pwOf), .int (k : Int)] = some (pwOf ps[k]) := by
        rw [pd_idxL, ix_nat (by rw [List.length_map]; exact hk2)]
        simp [hk2]
      have i2 : pD .idx [.lst (ps.map rowD), .int (k : Int)] = some (.tup [.int (ps[k].1 : Int), .int (ps[k].2 : Int)]) := by
        rw [pd_idxL, ix_nat (by rw [List.length_map]; exact hk2)]
        simp [hk2, rowD]
      refine ⟨rfl, _, rfl, ?_⟩
      refine st_go ?_
      simp only [ok_v, ok_k, ok_op, ok_and, ok_or, ok_not, ok_if, ok_chain, ok_call, ok_callK, ok_mkK, ok_fld, ok_met, ok_sl, ok_mv, ok_lc, ok_pop, ok_es0, ok_es, ok_o0, ok_o1, okT_and, okT_or, okT_not, okT_k, okT_op, okT_ite, okT_chain, okT_call, okT_fld, okT_lc, okT_pop, okT_callK, okT_v, okTs0, okTs1, okI_val, okI_rng, okI_rng2, okI_zip, okI_enu, okI_slot, ok_pass, ok_brk, ok_cont, ok_expr, ok_set, ok_par, ok_unp, ok_augA, ok_seti, ok_setf, ok_app, ok_ifS, ok_for, ok_whl, ok_ret, late_k, late_op, late_and_, late_or_, late_not_, late_ite, late_chain, late_call, late_fld, late_met, late_sl, late_lc, late_pop, late_mv, late_callK, late_mkK, late_v, late_nil, get_c0, get_cs, List.set_cons_zero, List.set_cons_succ, stK_n, setKs_nil, setKs_n, Option.bind_some, Option.map_some, Option.some.injEq, exists_eq_left', exists_eq_left, pr_call, pr_fi, List.append_nil, List.cons_append, List.nil_append, List.map_cons, List.map_nil, List.replicate_succ, List.replicate_zero, D.int.injEq, D.bl.injEq, D.lst.injEq, D.str.injEq, D.tup.injEq, pd_sub, pd_eqI, pd_eqB, pd_eqS, pd_neI, pd_neB, pd_neS, pd_ltI, pd_leI, pd_gtI, pd_geI, pd_leS, pd_isN, pd_intI, pd_list, pd_listT, pd_tuple, pd_dct, truth, isNonD, reduceCtorEq, if_true, if_false, reduceIte, Bool.false_eq_true, Bool.not_true, Bool.not_false, List.length_cons, List.length_nil, true_and, and_true, exists_const, exists_eq', List.headD_cons, pd_l0, pd_t0, pd_l1, pd_t1, pd_l2, pd_t2, pd_l3, pd_t3, pd_l4, pd_t4, pd_l5, pd_t5, pd_l6, pd_t6, pd_l7, pd_t7, pd_l8, pd_t8, pd_l9, pd_t9, pd_l10, pd_t10, pd_l11, pd_t11, pd_l12, pd_t12, exists_eq, ok_own, okT_own, late_own, List.getElem?_cons_zero, List.getElem?_cons_succ, nx_ret, wipeE, backE, endQ, Fi.io, outsOf, isM, List.headD_cons, List.tail_cons, back, pickE, pick, i1, i2, show pD (.isi 1 [.own 0]) [pwOf ps[k]] = some (.bl true) from rfl, idt0, idt1, sh_eq h0]
      refine (mk39 q1 q2).imp ?_
      rintro _ _ ⟨rfl, rfl⟩
      refine ⟨rfl, _, _, rfl, ?_⟩
      simp only [ok_v, ok_k, ok_op, ok_and, ok_or, ok_not, ok_if, ok_chain, ok_call, ok_callK, ok_mkK, ok_fld, ok_met, ok_sl, ok_mv, ok_lc, ok_pop, ok_es0, ok_es, ok_o0, ok_o1, okT_and, okT_or, okT_not, okT_k, okT_op, okT_ite, okT_chain, okT_call, okT_fld, okT_lc, okT_pop, okT_callK, okT_v, okTs0, okTs1, okI_val, okI_rng, okI_rng2, okI_zip, okI_enu, okI_slot, ok_pass, ok_brk, ok_cont, ok_expr, ok_set, ok_par, ok_unp, ok_augA, ok_seti, ok_setf, ok_app, ok_ifS, ok_for, ok_whl, ok_ret, late_k, late_op, late_and_, late_or_, late_not_, late_ite, late_chain, late_call, late_fld, late_met, late_sl, late_lc, late_pop, late_mv, late_callK, late_mkK, late_v, late_nil, get_c0, get_cs, List.set_cons_zero, List.set_cons_succ, stK_n, setKs_nil, setKs_n, Option.bind_some, Option.map_some, Option.some.injEq, exists_eq_left', exists_eq_left, pr_call, pr_fi, List.append_nil, List.cons_append, List.nil_append, List.map_cons, List.map_nil, List.replicate_succ, List.replicate_zero, D.int.injEq, D.bl.injEq, D.lst.injEq, D.str.injEq, D.tup.injEq, pd_sub, pd_eqI, pd_eqB, pd_eqS, pd_neI, pd_neB, pd_neS, pd_ltI, pd_leI, pd_gtI, pd_geI, pd_leS, pd_isN, pd_intI, pd_list, pd_listT, pd_tuple, pd_dct, truth, isNonD, reduceCtorEq, if_true, if_false, reduceIte, Bool.false_eq_true, Bool.not_true, Bool.not_false, List.length_cons, List.length_nil, true_and, and_true, exists_const, exists_eq', List.headD_cons, pd_l0, pd_t0, pd_l1, pd_t1, pd_l2, pd_t2, pd_l3, pd_t3, pd_l4, pd_t4, pd_l5, pd_t5, pd_l6, pd_t6, pd_l7, pd_t7, pd_l8, pd_t8, pd_l9, pd_t9, pd_l10, pd_t10, pd_l11, pd_t11, pd_l12, pd_t12, exists_eq, ok_own, okT_own, late_own, List.getElem?_cons_zero, List.getElem?_cons_succ, nx_ret, wipeE, backE, endQ, Fi.io, outsOf, isM, List.headD_cons, List.tail_cons, back, pickE, pick, f3, List.drop_succ_cons, List.drop_zero, show (pg.prOf (pg.callN 10000000000000000000000000000000000000000 39)).ownD .ne [pwOf ps[k], pw ps[k].1 ps[k].2] = some (.bl false) from pO_ne (n := 38) P]
      refine st_end0 (st_end ?_)
      exact ⟨fun y hy' => hy y (List.mem_cons_of_mem _ hy'), _, rfl⟩
    rotate_left
    · intro y hy
      obtain ⟨k, hk, rfl⟩ := List.mem_map.mp hy
      exact ⟨k, by simpa using hk, rfl⟩
    · subst hps
      exact ⟨_, rfl⟩
    rintro e ⟨_, z, rfl⟩
    refine ⟨rfl, ?_⟩
    -- the operands
    refine st_nx ?_
    simp only [ok_v, ok_k, ok_op, ok_and, ok_or, ok_not, ok_if, ok_chain, ok_call, ok_callK, ok_mkK, ok_fld, ok_met, ok_sl, ok_mv, ok_lc, ok_pop, ok_es0, ok_es, ok_o0, ok_o1, okT_and, okT_or, okT_not, okT_k, okT_op, okT_ite, okT_chain, okT_call, okT_fld, okT_lc, okT_pop, okT_callK, okT_v, okTs0, okTs1, okI_val, okI_rng, okI_rng2, okI_zip, okI_enu, okI_slot, ok_pass, ok_brk, ok_cont, ok_expr, ok_set, ok_par, ok_unp, ok_augA, ok_seti, ok_setf, ok_app, ok_ifS, ok_for, ok_whl, ok_ret, late_k, late_op, late_and_, late_or_, late_not_, late_ite, late_chain, late_call, late_fld, late_met, late_sl, late_lc, late_pop, late_mv, late_callK, late_mkK, late_v, late_nil, get_c0, get_cs, List.set_cons_zero, List.set_cons_succ, stK_n, setKs_nil, setKs_n, Option.bind_some, Option.map_some, Option.some.injEq, exists_eq_left', exists_eq_left, pr_call, pr_fi, List.append_nil, List.cons_append, List.nil_append, List.map_cons, List.map_nil, List.replicate_succ, List.replicate_zero, D.int.injEq, D.bl.injEq, D.lst.injEq, D.str.injEq, D.tup.injEq, pd_sub, pd_eqI, pd_eqB, pd_eqS, pd_neI, pd_neB, pd_neS, pd_ltI, pd_leI, pd_gtI, pd_geI, pd_leS, pd_isN, pd_intI, pd_list, pd_listT, pd_tuple, pd_dct, truth, isNonD, reduceCtorEq, if_true, if_false, reduceIte, Bool.false_eq_true, Bool.not_true, Bool.not_false, List.length_cons, List.length_nil, true_and, and_true, exists_const, exists_eq', List.headD_cons, pd_l0, pd_t0, pd_l1, pd_t1, pd_l2, pd_t2, pd_l3, pd_t3, pd_l4, pd_t4, pd_l5, pd_t5, pd_l6, pd_t6, pd_l7, pd_t7, pd_l8, pd_t8, pd_l9, pd_t9, pd_l10, pd_t10, pd_l11, pd_t11, pd_l12, pd_t12, exists_eq, ok_own, okT_own, late_own, List.getElem?_cons_zero, List.getElem?_cons_succ, nx_ret, wipeE, backE, endQ, Fi.io, outsOf, isM, List.headD_cons, List.tail_cons, back, pickE, pick, rowD, idt0, idt1, sh_eq h0]
    refine (mk39 w0b (l30 w0c)).imp ?_
    rintro _ _ ⟨rfl, rfl⟩
    refine ⟨rfl, _, _, rfl, ?_⟩
    simp only [ok_v, ok_k, ok_op, ok_and, ok_or, ok_not, ok_if, ok_chain, ok_call, ok_callK, ok_mkK, ok_fld, ok_met, ok_sl, ok_mv, ok_lc, ok_pop, ok_es0, ok_es, ok_o0, ok_o1, okT_and, okT_or, okT_not, okT_k, okT_op, okT_ite, okT_chain, okT_call, okT_fld, okT_lc, okT_pop, okT_callK, okT_v, okTs0, okTs1, okI_val, okI_rng, okI_rng2, okI_zip, okI_enu, okI_slot, ok_pass, ok_brk, ok_cont, ok_expr, ok_set, ok_par, ok_unp, ok_augA, ok_seti, ok_setf, ok_app, ok_ifS, ok_for, ok_whl, ok_ret, late_k, late_op, late_and_, late_or_, late_not_, late_ite, late_chain, late_call, late_fld, late_met, late_sl, late_lc, late_pop, late_mv, late_callK, late_mkK, late_v, late_nil, get_c0, get_cs, List.set_cons_zero, List.set_cons_succ, stK_n, setKs_nil, setKs_n, Option.bind_some, Option.map_some, Option.some.injEq, exists_eq_left', exists_eq_left, pr_call, pr_fi, List.append_nil, List.cons_append, List.nil_append, List.map_cons, List.map_nil, List.replicate_succ, List.replicate_zero, D.int.injEq, D.bl.injEq, D.lst.injEq, D.str.injEq, D.tup.injEq, pd_sub, pd_eqI, pd_eqB, pd_eqS, pd_neI, pd_neB, pd_neS, pd_ltI, pd_leI, pd_gtI, pd_geI, pd_leS, pd_isN, pd_intI, pd_list, pd_listT, pd_tuple, pd_dct, truth, isNonD, reduceCtorEq, if_true, if_false, reduceIte, Bool.false_eq_true, Bool.not_true, Bool.not_false, List.length_cons, List.length_nil, true_and, and_true, exists_const, exists_eq', List.headD_cons, pd_l0, pd_t0, pd_l1, pd_t1, pd_l2, pd_t2, pd_l3, pd_t3, pd_l4, pd_t4, pd_l5, pd_t5, pd_l6, pd_t6, pd_l7, pd_t7, pd_l8, pd_t8, pd_l9, pd_t9, pd_l10, pd_t10, pd_l11, pd_t11, pd_l12, pd_t12, exists_eq, ok_own, okT_own, late_own, List.getElem?_cons_zero, List.getElem?_cons_succ, nx_ret, wipeE, backE, endQ, Fi.io, outsOf, isM, List.headD_cons, List.tail_cons, back, pickE, pick, f3, List.drop_succ_cons, List.drop_zero, idt0, idt1, sh_eq h0, show ∀ t b, (pg.prOf (pg.callN 10000000000000000000000000000000000000000 39)).ownD .eq [pw t b, pw t b] = some (.bl true) from fun t b => pO_eq (n := 38) P]
    refine (mk39 w1b (l30 w1c)).imp ?_
    rintro _ _ ⟨rfl, rfl⟩
    refine ⟨rfl, _, _, rfl, ?_⟩
    simp only [ok_v, ok_k, ok_op, ok_and, ok_or, ok_not, ok_if, ok_chain, ok_call, ok_callK, ok_mkK, ok_fld, ok_met, ok_sl, ok_mv, ok_lc, ok_pop, ok_es0, ok_es, ok_o0, ok_o1, okT_and, okT_or, okT_not, okT_k, okT_op, okT_ite, okT_chain, okT_call, okT_fld, okT_lc, okT_pop, okT_callK, okT_v, okTs0, okTs1, okI_val, okI_rng, okI_rng2, okI_zip, okI_enu, okI_slot, ok_pass, ok_brk, ok_cont, ok_expr, ok_set, ok_par, ok_unp, ok_augA, ok_seti, ok_setf, ok_app, ok_ifS, ok_for, ok_whl, ok_ret, late_k, late_op, late_and_, late_or_, late_not_, late_ite, late_chain, late_call, late_fld, late_met, late_sl, late_lc, late_pop, late_mv, late_callK, late_mkK, late_v, late_nil, get_c0, get_cs, List.set_cons_zero, List.set_cons_succ, stK_n, setKs_nil, setKs_n, Option.bind_some, Option.map_some, Option.some.injEq, exists_eq_left', exists_eq_left, pr_call, pr_fi, List.append_nil, List.cons_append, List.nil_append, List.map_cons, List.map_nil, List.replicate_succ, List.replicate_zero, D.int.injEq, D.bl.injEq, D.lst.injEq, D.str.injEq, D.tup.injEq, pd_sub, pd_eqI, pd_eqB, pd_eqS, pd_neI, pd_neB, pd_neS, pd_ltI, pd_leI, pd_gtI, pd_geI, pd_leS, pd_isN, pd_intI, pd_list, pd_listT, pd_tuple, pd_dct, truth, isNonD, reduceCtorEq, if_true, if_false, reduceIte, Bool.false_eq_true, Bool.not_true, Bool.not_false, List.length_cons, List.length_nil, true_and, and_true, exists_const, exists_eq', List.headD_cons, pd_l0, pd_t0, pd_l1, pd_t1, pd_l2, pd_t2, pd_l3, pd_t3, pd_l4, pd_t4, pd_l5, pd_t5, pd_l6, pd_t6, pd_l7, pd_t7, pd_l8, pd_t8, pd_l9, pd_t9, pd_l10, pd_t10, pd_l11, pd_t11, pd_l12, pd_t12, exists_eq, ok_own, okT_own, late_own, List.getElem?_cons_zero, List.getElem?_cons_succ, nx_ret, wipeE, backE, endQ, Fi.io, outsOf, isM, List.headD_cons, List.tail_cons, back, pickE, pick, f3, List.drop_succ_cons, List.drop_zero, show ∀ t b, (pg.prOf (pg.callN 10000000000000000000000000000000000000000 39)).ownD .eq [pw t b, pw t b] = some (.bl true) from fun t b => pO_eq (n := 38) P]
    refine (like_ok d4 2 _ (by rfl)).imp ?_
    rintro _ _ ⟨rfl, rfl⟩
    simp only [ok_v, ok_k, ok_op, ok_and, ok_or, ok_not, ok_if, ok_chain, ok_call, ok_callK, ok_mkK, ok_fld, ok_met, ok_sl, ok_mv, ok_lc, ok_pop, ok_es0, ok_es, ok_o0, ok_o1, okT_and, okT_or, okT_not, okT_k, okT_op, okT_ite, okT_chain, okT_call, okT_fld, okT_lc, okT_pop, okT_callK, okT_v, okTs0, okTs1, okI_val, okI_rng, okI_rng2, okI_zip, okI_enu, okI_slot, ok_pass, ok_brk, ok_cont, ok_expr, ok_set, ok_par, ok_unp, ok_augA, ok_seti, ok_setf, ok_app, ok_ifS, ok_for, ok_whl, ok_ret, late_k, late_op, late_and_, late_or_, late_not_, late_ite, late_chain, late_call, late_fld, late_met, late_sl, late_lc, late_pop, late_mv, late_callK, late_mkK, late_v, late_nil, get_c0, get_cs, List.set_cons_zero, List.set_cons_succ, stK_n, setKs_nil, setKs_n, Option.bind_some, Option.map_some, Option.some.injEq, exists_eq_left', exists_eq_left, pr_call, pr_fi, List.append_nil, List.cons_append, List.nil_append, List.map_cons, List.map_nil, List.replicate_succ, List.replicate_zero, D.int.injEq, D.bl.injEq, D.lst.injEq, D.str.injEq, D.tup.injEq, pd_sub, pd_eqI, pd_eqB, pd_eqS, pd_neI, pd_neB, pd_neS, pd_ltI, pd_leI, pd_gtI, pd_geI, pd_leS, pd_isN, pd_intI, pd_list, pd_listT, pd_tuple, pd_dct, truth, isNonD, reduceCtorEq, if_true, if_false, reduceIte, Bool.false_eq_true, Bool.not_true, Bool.not_false, List.length_cons, List.length_nil, true_and, and_true, exists_const, exists_eq', List.headD_cons, pd_l0, pd_t0, pd_l1, pd_t1, pd_l2, pd_t2, pd_l3, pd_t3, pd_l4, pd_t4, pd_l5, pd_t5, pd_l6, pd_t6, pd_l7, pd_t7, pd_l8, pd_t8, pd_l9, pd_t9, pd_l10, pd_t10, pd_l11, pd_t11, pd_l12, pd_t12, exists_eq, ok_own, okT_own, late_own, List.getElem?_cons_zero, List.getElem?_cons_succ, nx_ret, wipeE, backE, endQ, Fi.io, outsOf, isM, List.headD_cons, List.tail_cons, back, pickE, pick, f4]
    refine st_end0 ?_
    -- all of them
    clear A2 A3 A4 A5 A6 A7 A8 hpb hpl
    refine st_nx ?_
    simp only [ok_v, ok_k, ok_op, ok_and, ok_or, ok_not, ok_if, ok_chain, ok_call, ok_callK, ok_mkK, ok_fld, ok_met, ok_sl, ok_mv, ok_lc, ok_pop, ok_es0, ok_es, ok_o0, ok_o1, okT_and, okT_or, okT_not, okT_k, okT_op, okT_ite, okT_chain, okT_call, okT_fld, okT_lc, okT_pop, okT_callK, okT_v, okTs0, okTs1, okI_val, okI_rng, okI_rng2, okI_zip, okI_enu, okI_slot, ok_pass, ok_brk, ok_cont, ok_expr, ok_set, ok_par, ok_unp, ok_augA, ok_seti, ok_setf, ok_app, ok_ifS, ok_for, ok_whl, ok_ret, late_k, late_op, late_and_, late_or_, late_not_, late_ite, late_chain, late_call, late_fld, late_met, late_sl, late_lc, late_pop, late_mv, late_callK, late_mkK, late_v, late_nil, get_c0, get_cs, List.set_cons_zero, List.set_cons_succ, stK_n, setKs_nil, setKs_n, Option.bind_some, Option.map_some, Option.some.injEq, exists_eq_left', exists_eq_left, pr_call, pr_fi, List.append_nil, List.cons_append, List.nil_append, List.map_cons, List.map_nil, List.replicate_succ, List.replicate_zero, D.int.injEq, D.bl.injEq, D.lst.injEq, D.str.injEq, D.tup.injEq, pd_sub, pd_eqI, pd_eqB, pd_eqS, pd_neI, pd_neB, pd_neS, pd_ltI, pd_leI, pd_gtI, pd_geI, pd_leS, pd_isN, pd_intI, pd_list, pd_listT, pd_tuple, pd_dct, truth, isNonD, reduceCtorEq, if_true, if_false, reduceIte, Bool.false_eq_true, Bool.not_true, Bool.not_false, List.length_cons, List.length_nil, true_and, and_true, exists_const, exists_eq', List.headD_cons, pd_l0, pd_t0, pd_l1, pd_t1, pd_l2, pd_t2, pd_l3, pd_t3, pd_l4, pd_t4, pd_l5, pd_t5, pd_l6, pd_t6, pd_l7, pd_t7, pd_l8, pd_t8, pd_l9, pd_t9, pd_l10, pd_t10, pd_l11, pd_t11, pd_l12, pd_t12, exists_eq, ok_own, okT_own, late_own, List.getElem?_cons_zero, List.getElem?_cons_succ, nx_ret, wipeE, backE, endQ, Fi.io, outsOf, isM, List.headD_cons, List.tail_cons, back, pickE, pick, itD]
    refine lcL_ok (fun ys e acc => ∃ (don rest : List (Nat × Nat)), don ++ rest = [(t0, b0), (t1, b1), (t5, b5), (t3, b3), (t4, b4)] ∧ ys = rest.map rowD ∧ acc = don.map pwOf ∧ ∃ y2 y4 y5 y6 y7 y8 y9 y10 y11 y12 y13 y14 y15 y16 y17 y18, e = [some (.scr ns), some t7, y2, some (.lst ([(t0, b0), (t1, b1), (t5, b5), (t3, b3), (t4, b4)].map rowD)), y4, y5, y6, y7, y8, y9, y10, y11, y12, y13, y14, y15, y16, y17, y18]) ?_ ?_ _ _ _ ⟨[], _, rfl, rfl, rfl, _, _, _, _, _, _, _, _, _, _, _, _, _, _, _, _, rfl⟩
    · rintro y ys e acc ⟨don, rest, hdr, hy, rfl, y2, y4, y5, y6, y7, y8, y9, y10, y11, y12, y13, y14, y15, y16, y17, y18, rfl⟩
      cases rest with
      | nil => cases hy
      | cons r rest =>
        simp only [List.map_cons, List.cons.injEq] at hy
        obtain ⟨rfl, rfl⟩ := hy
        obtain ⟨r1, r2, r3⟩ := hwr r (by rw [← hdr]; simp)
        have hdl : don.length + (rest.length + 1) = 5 := by
          have := congrArg List.length hdr
          simpa using this
        refine ⟨rfl, _, rfl, ?_⟩
        simp only [ok_v, ok_k, ok_op, ok_and, ok_or, ok_not, ok_if, ok_chain, ok_call, ok_callK, ok_mkK, ok_fld, ok_met, ok_sl, ok_mv, ok_lc, ok_pop, ok_es0, ok_es, ok_o0, ok_o1, okT_and, okT_or, okT_not, okT_k, okT_op, okT_ite, okT_chain, okT_call, okT_fld, okT_lc, okT_pop, okT_callK, okT_v, okTs0, okTs1, okI_val, okI_rng, okI_rng2, okI_zip, okI_enu, okI_slot, ok_pass, ok_brk, ok_cont, ok_expr, ok_set, ok_par, ok_unp, ok_augA, ok_seti, ok_setf, ok_app, ok_ifS, ok_for, ok_whl, ok_ret, late_k, late_op, late_and_, late_or_, late_not_, late_ite, late_chain, late_call, late_fld, late_met, late_sl, late_lc, late_pop, late_mv, late_callK, late_mkK, late_v, late_nil, get_c0, get_cs, List.set_cons_zero, List.set_cons_succ, stK_n, setKs_nil, setKs_n, Option.bind_some, Option.map_some, Option.some.injEq, exists_eq_left', exists_eq_left, pr_call, pr_fi, List.append_nil, List.cons_append, List.nil_append, List.map_cons, List.map_nil, List.replicate_succ, List.replicate_zero, D.int.injEq, D.bl.injEq, D.lst.injEq, D.str.injEq, D.tup.injEq, pd_sub, pd_eqI, pd_eqB, pd_eqS, pd_neI, pd_neB, pd_neS, pd_ltI, pd_leI, pd_gtI, pd_geI, pd_leS, pd_isN, pd_intI, pd_list, pd_listT, pd_tuple, pd_dct, truth, isNonD, reduceCtorEq, if_true, if_false, reduceIte, Bool.false_eq_true, Bool.not_true, Bool.not_false, List.length_cons, List.length_nil, true_and, and_true, exists_const, exists_eq', List.headD_cons, pd_l0, pd_t0, pd_l1, pd_t1, pd_l2, pd_t2, pd_l3, pd_t3, pd_l4, pd_t4, pd_l5, pd_t5, pd_l6, pd_t6, pd_l7, pd_t7, pd_l8, pd_t8, pd_l9, pd_t9, pd_l10, pd_t10, pd_l11, pd_t11, pd_l12, pd_t12, exists_eq, ok_own, okT_own, late_own, List.getElem?_cons_zero, List.getElem?_cons_succ, nx_ret, wipeE, backE, endQ, Fi.io, outsOf, isM, List.headD_cons, List.tail_cons, back, pickE, pick, rowD, idt0, idt1, sh_eq h0]
        refine (mk39 r2 (l30 r3)).imp ?_
        rintro _ _ ⟨rfl, rfl⟩
        refine ⟨rfl, _, _, rfl, ?_⟩
        simp only [ok_v, ok_k, ok_op, ok_and, ok_or, ok_not, ok_if, ok_chain, ok_call, ok_callK, ok_mkK, ok_fld, ok_met, ok_sl, ok_mv, ok_lc, ok_pop, ok_es0, ok_es, ok_o0, ok_o1, okT_and, okT_or, okT_not, okT_k, okT_op, okT_ite, okT_chain, okT_call, okT_fld, okT_lc, okT_pop, okT_callK, okT_v, okTs0, okTs1, okI_val, okI_rng, okI_rng2, okI_zip, okI_enu, okI_slot, ok_pass, ok_brk, ok_cont, ok_expr, ok_set, ok_par, ok_unp, ok_augA, ok_seti, ok_setf, ok_app, ok_ifS, ok_for, ok_whl, ok_ret, late_k, late_op, late_and_, late_or_, late_not_, late_ite, late_chain, late_call, late_fld, late_met, late_sl, late_lc, late_pop, late_mv, late_callK, late_mkK, late_v, late_nil, get_c0, get_cs, List.set_cons_zero, List.set_cons_succ, stK_n, setKs_nil, setKs_n, Option.bind_some, Option.map_some, Option.some.injEq, exists_eq_left', exists_eq_left, pr_call, pr_fi, List.append_nil, List.cons_append, List.nil_append, List.map_cons, List.map_nil, List.replicate_succ, List.replicate_zero, D.int.injEq, D.bl.injEq, D.lst.injEq, D.str.injEq, D.tup.injEq, pd_sub, pd_eqI, pd_eqB, pd_eqS, pd_neI, pd_neB, pd_neS, pd_ltI, pd_leI, pd_gtI, pd_geI, pd_leS, pd_isN, pd_intI, pd_list, pd_listT, pd_tuple, pd_dct, truth, isNonD, reduceCtorEq, if_true, if_false, reduceIte, Bool.false_eq_true, Bool.not_true, Bool.not_false, List.length_cons, List.length_nil, true_and, and_true, exists_const, exists_eq', List.headD_cons, pd_l0, pd_t0, pd_l1, pd_t1, pd_l2, pd_t2, pd_l3, pd_t3, pd_l4, pd_t4, pd_l5, pd_t5, pd_l6, pd_t6, pd_l7, pd_t7, pd_l8, pd_t8, pd_l9, pd_t9, pd_l10, pd_t10, pd_l11, pd_t11, pd_l12, pd_t12, exists_eq, ok_own, okT_own, late_own, List.getElem?_cons_zero, List.getElem?_cons_succ, nx_ret, wipeE, backE, endQ, Fi.io, outsOf, isM, List.headD_cons, List.tail_cons, back, pickE, pick, f3, List.drop_succ_cons, List.drop_zero]
        refine ⟨small_le (by rw [List.length_map]; omega), don ++ [r], rest, by rw [List.append_assoc]; exact hdr, rfl, by rw [List.map_append]; rfl, _, _, _, _, _, _, _, _, _, _, _, _, _, _, _, _, rfl⟩
    rintro e acc ⟨don, rest, hdr, hy, rfl, y2, y4, y5, y6, y7, y8, y9, y10, y11, y12, y13, y14, y15, y16, y17, y18, rfl⟩
    have hrest : rest = [] := by cases rest with
      | nil => rfl
      | cons _ _ => cases hy
    subst hrest
    rw [List.append_nil] at hdr
    subst hdr
    refine ⟨rfl, ?_⟩
    simp only [ok_v, ok_k, ok_op, ok_and, ok_or, ok_not, ok_if, ok_chain, ok_call, ok_callK, ok_mkK, ok_fld, ok_met, ok_sl, ok_mv, ok_lc, ok_pop, ok_es0, ok_es, ok_o0, ok_o1, okT_and, okT_or, okT_not, okT_k, okT_op, okT_ite, okT_chain, okT_call, okT_fld, okT_lc, okT_pop, okT_callK, okT_v, okTs0, okTs1, okI_val, okI_rng, okI_rng2, okI_zip, okI_enu, okI_slot, ok_pass, ok_brk, ok_cont, ok_expr, ok_set, ok_par, ok_unp, ok_augA, ok_seti, ok_setf, ok_app, ok_ifS, ok_for, ok_whl, ok_ret, late_k, late_op, late_and_, late_or_, late_not_, late_ite, late_chain, late_call, late_fld, late_met, late_sl, late_lc, late_pop, late_mv, late_callK, late_mkK, late_v, late_nil, get_c0, get_cs, List.set_cons_zero, List.set_cons_succ, stK_n, setKs_nil, setKs_n, Option.bind_some, Option.map_some, Option.some.injEq, exists_eq_left', exists_eq_left, pr_call, pr_fi, List.append_nil, List.cons_append, List.nil_append, List.map_cons, List.map_nil, List.replicate_succ, List.replicate_zero, D.int.injEq, D.bl.injEq, D.lst.injEq, D.str.injEq, D.tup.injEq, pd_sub, pd_eqI, pd_eqB, pd_eqS, pd_neI, pd_neB, pd_neS, pd_ltI, pd_leI, pd_gtI, pd_geI, pd_leS, pd_isN, pd_intI, pd_list, pd_listT, pd_tuple, pd_dct, truth, isNonD, reduceCtorEq, if_true, if_false, reduceIte, Bool.false_eq_true, Bool.not_true, Bool.not_false, List.length_cons, List.length_nil, true_and, and_true, exists_const, exists_eq', List.headD_cons, pd_l0, pd_t0, pd_l1, pd_t1, pd_l2, pd_t2, pd_l3, pd_t3, pd_l4, pd_t4, pd_l5, pd_t5, pd_l6, pd_t6, pd_l7, pd_t7, pd_l8, pd_t8, pd_l9, pd_t9, pd_l10, pd_t10, pd_l11, pd_t11, pd_l12, pd_t12, exists_eq, ok_own, okT_own, late_own, List.getElem?_cons_zero, List.getElem?_cons_succ, nx_ret, wipeE, backE, endQ, Fi.io, outsOf, isM, List.headD_cons, List.tail_cons, back, pickE, pick, List.map_cons, List.map_nil, pwOf]
    -- the sums
    have mT1 : t0 * b1 + t1 * b0 ≤ 1800 := by omega
    have C2 : (pg.prOf (pg.callN 10000000000000000000000000000000000000000 39)).ownD .add [pw (t0 * b1 + t1 * b0) (b0 * b1), pw t5 b5] = some (pw ((t0 * b1 + t1 * b0) * b5 + t5 * (b0 * b1)) (b0 * b1 * b5)) := pO_add (n := 36) P hK mbb1 w2b (Nat.lt_of_le_of_lt mT1 (by decide)) (Nat.lt_of_le_of_lt mbb (by decide)) (l30 w2a) (l30 w2c)
    have n1 : (t0 * b1 + t1 * b0) * b5 ≤ 1800 * 30 := Nat.mul_le_mul mT1 w2c
    have n2 : t5 * (b0 * b1) ≤ 30 * (30 * 30) := Nat.mul_le_mul w2a mbb
    have n3 : b0 * b1 * b5 ≤ 30 * 30 * 30 := Nat.mul_le_mul mbb w2c
    have n4 : 1 ≤ b0 * b1 * b5 := Nat.mul_pos mbb1 w2b
    have C3 : (pg.prOf (pg.callN 10000000000000000000000000000000000000000 39)).ownD .add [pw ((t0 * b1 + t1 * b0) * b5 + t5 * (b0 * b1)) (b0 * b1 * b5), pw t3 b3] = some (pw (((t0 * b1 + t1 * b0) * b5 + t5 * (b0 * b1)) * b3 + t3 * (b0 * b1 * b5)) (b0 * b1 * b5 * b3)) := pO_add (n := 36) P hK n4 w3b (Nat.lt_of_le_of_lt (Nat.add_le_add n1 n2) (by decide)) (Nat.lt_of_le_of_lt n3 (by decide)) (l30 w3a) (l30 w3c)
    have k1 : ((t0 * b1 + t1 * b0) * b5 + t5 * (b0 * b1)) * b3 ≤ (1800 * 30 + 30 * (30 * 30)) * 30 := Nat.mul_le_mul (Nat.add_le_add n1 n2) w3c
    have k2 : t3 * (b0 * b1 * b5) ≤ 30 * (30 * 30 * 30) := Nat.mul_le_mul w3a n3
    have k3 : b0 * b1 * b5 * b3 ≤ 30 * 30 * 30 * 30 := Nat.mul_le_mul n3 w3c
    have k4 : 1 ≤ b0 * b1 * b5 * b3 := Nat.mul_pos n4 w3b
    have C4 : (pg.prOf (pg.callN 10000000000000000000000000000000000000000 39)).ownD .add [pw (((t0 * b1 + t1 * b0) * b5 + t5 * (b0 * b1)) * b3 + t3 * (b0 * b1 * b5)) (b0 * b1 * b5 * b3), pw t4 b4] = some (pw ((((t0 * b1 + t1 * b0) * b5 + t5 * (b0 * b1)) * b3 + t3 * (b0 * b1 * b5)) * b4 + t4 * (b0 * b1 * b5 * b3)) (b0 * b1 * b5 * b3 * b4)) := pO_add (n := 36) P hK k4 w4b (Nat.lt_of_le_of_lt (Nat.add_le_add k1 k2) (by decide)) (Nat.lt_of_le_of_lt k3 (by decide)) (l30 w4a) (l30 w4c)
    have D1 : (pg.prOf (pg.callN 10000000000000000000000000000000000000000 39)).ownD (.stat 0 "total") [] = some (pw 0 1) := o_stat (n := 36) (rows := []) P d14 rfl hK (fun _ h => nomatch h) (by decide)
    have D2 : (pg.prOf (pg.callN 10000000000000000000000000000000000000000 39)).ownD (.stat 0 "total") [pw t0 b0] = some (pw t0 b0) := by
      have h := o_stat (n := 36) (rows := [(t0, b0)]) P d14 rfl hK (fun r hr => hwr r (by simp at hr ⊢; exact .inl hr)) (by simp)
      simp only [fo, pwOf, List.map_cons, List.map_nil, Nat.zero_mul, Nat.zero_add, Nat.mul_one, Nat.one_mul] at h
      exact h
    have D3 : (pg.prOf (pg.callN 10000000000000000000000000000000000000000 39)).ownD (.stat 0 "total") [pw t0 b0, pw t1 b1, pw t5 b5, pw t3 b3, pw t4 b4] = some (pw ((((t0 * b1 + t1 * b0) * b5 + t5 * (b0 * b1)) * b3 + t3 * (b0 * b1 * b5)) * b4 + t4 * (b0 * b1 * b5 * b3)) (b0 * b1 * b5 * b3 * b4)) := by
      have h := o_stat (n := 36) (rows := [(t0, b0), (t1, b1), (t5, b5), (t3, b3), (t4, b4)]) P d14 rfl hK hwr (by simp)
      simp only [fo, pwOf, List.map_cons, List.map_nil, Nat.zero_mul, Nat.zero_add, Nat.mul_one, Nat.one_mul] at h
      exact h
    refine st_nx ?_
    simp only [ok_v, ok_k, ok_op, ok_and, ok_or, ok_not, ok_if, ok_chain, ok_call, ok_callK, ok_mkK, ok_fld, ok_met, ok_sl, ok_mv, ok_lc, ok_pop, ok_es0, ok_es, ok_o0, ok_o1, okT_and, okT_or, okT_not, okT_k, okT_op, okT_ite, okT_chain, okT_call, okT_fld, okT_lc, okT_pop, okT_callK, okT_v, okTs0, okTs1, okI_val, okI_rng, okI_rng2, okI_zip, okI_enu, okI_slot, ok_pass, ok_brk, ok_cont, ok_expr, ok_set, ok_par, ok_unp, ok_augA, ok_seti, ok_setf, ok_app, ok_ifS, ok_for, ok_whl, ok_ret, late_k, late_op, late_and_, late_or_, late_not_, late_ite, late_chain, late_call, late_fld, late_met, late_sl, late_lc, late_pop, late_mv, late_callK, late_mkK, late_v, late_nil, get_c0, get_cs, List.set_cons_zero, List.set_cons_succ, stK_n, setKs_nil, setKs_n, Option.bind_some, Option.map_some, Option.some.injEq, exists_eq_left', exists_eq_left, pr_call, pr_fi, List.append_nil, List.cons_append, List.nil_append, List.map_cons, List.map_nil, List.replicate_succ, List.replicate_zero, D.int.injEq, D.bl.injEq, D.lst.injEq, D.str.injEq, D.tup.injEq, pd_sub, pd_eqI, pd_eqB, pd_eqS, pd_neI, pd_neB, pd_neS, pd_ltI, pd_leI, pd_gtI, pd_geI, pd_leS, pd_isN, pd_intI, pd_list, pd_listT, pd_tuple, pd_dct, truth, isNonD, reduceCtorEq, if_true, if_false, reduceIte, Bool.false_eq_true, Bool.not_true, Bool.not_false, List.length_cons, List.length_nil, true_and, and_true, exists_const, exists_eq', List.headD_cons, pd_l0, pd_t0, pd_l1, pd_t1, pd_l2, pd_t2, pd_l3, pd_t3, pd_l4, pd_t4, pd_l5, pd_t5, pd_l6, pd_t6, pd_l7, pd_t7, pd_l8, pd_t8, pd_l9, pd_t9, pd_l10, pd_t10, pd_l11, pd_t11, pd_l12, pd_t12, exists_eq, ok_own, okT_own, late_own, List.getElem?_cons_zero, List.getElem?_cons_succ, nx_ret, wipeE, backE, endQ, Fi.io, outsOf, isM, List.headD_cons, List.tail_cons, back, pickE, pick, idx0, idl1, idl2, idl3, idl4, A1, C2, C3, C4]
    refine st_nx ?_
    simp only [ok_v, ok_k, ok_op, ok_and, ok_or, ok_not, ok_if, ok_chain, ok_call, ok_callK, ok_mkK, ok_fld, ok_met, ok_sl, ok_mv, ok_lc, ok_pop, ok_es0, ok_es, ok_o0, ok_o1, okT_and, okT_or, okT_not, okT_k, okT_op, okT_ite, okT_chain, okT_call, okT_fld, okT_lc, okT_pop, okT_callK, okT_v, okTs0, okTs1, okI_val, okI_rng, okI_rng2, okI_zip, okI_enu, okI_slot, ok_pass, ok_brk, ok_cont, ok_expr, ok_set, ok_par, ok_unp, ok_augA, ok_seti, ok_setf, ok_app, ok_ifS, ok_for, ok_whl, ok_ret, late_k, late_op, late_and_, late_or_, late_not_, late_ite, late_chain, late_call, late_fld, late_met, late_sl, late_lc, late_pop, late_mv, late_callK, late_mkK, late_v, late_nil, get_c0, get_cs, List.set_cons_zero, List.set_cons_succ, stK_n, setKs_nil, setKs_n, Option.bind_some, Option.map_some, Option.some.injEq, exists_eq_left', exists_eq_left, pr_call, pr_fi, List.append_nil, List.cons_append, List.nil_append, List.map_cons, List.map_nil, List.replicate_succ, List.replicate_zero, D.int.injEq, D.bl.injEq, D.lst.injEq, D.str.injEq, D.tup.injEq, pd_sub, pd_eqI, pd_eqB, pd_eqS, pd_neI, pd_neB, pd_neS, pd_ltI, pd_leI, pd_gtI, pd_geI, pd_leS, pd_isN, pd_intI, pd_list, pd_listT, pd_tuple, pd_dct, truth, isNonD, reduceCtorEq, if_true, if_false, reduceIte, Bool.false_eq_true, Bool.not_true, Bool.not_false, List.length_cons, List.length_nil, true_and, and_true, exists_const, exists_eq', List.headD_cons, pd_l0, pd_t0, pd_l1, pd_t1, pd_l2, pd_t2, pd_l3, pd_t3, pd_l4, pd_t4, pd_l5, pd_t5, pd_l6, pd_t6, pd_l7, pd_t7, pd_l8, pd_t8, pd_l9, pd_t9, pd_l10, pd_t10, pd_l11, pd_t11, pd_l12, pd_t12, exists_eq, ok_own, okT_own, late_own, List.getElem?_cons_zero, List.getElem?_cons_succ, nx_ret, wipeE, backE, endQ, Fi.io, outsOf, isM, List.headD_cons, List.tail_cons, back, pickE, pick, idx0, idl1, idl2, idl3, idl4, D1, D2, D3]
    refine st_nx ?_
    have Z1 : (pg.callN 10000000000000000000000000000000000000000 39 3 [.obj 0 [], .int 0, .int 1]).Ok fun d o => d = .non ∧ o = [some (pw 0 1), none, none] := mk39 (a := 0) (b := 1) (by decide) (by decide)
    simp only [ok_v, ok_k, ok_op, ok_and, ok_or, ok_not, ok_if, ok_chain, ok_call, ok_callK, ok_mkK, ok_fld, ok_met, ok_sl, ok_mv, ok_lc, ok_pop, ok_es0, ok_es, ok_o0, ok_o1, okT_and, okT_or, okT_not, okT_k, okT_op, okT_ite, okT_chain, okT_call, okT_fld, okT_lc, okT_pop, okT_callK, okT_v, okTs0, okTs1, okI_val, okI_rng, okI_rng2, okI_zip, okI_enu, okI_slot, ok_pass, ok_brk, ok_cont, ok_expr, ok_set, ok_par, ok_unp, ok_augA, ok_seti, ok_setf, ok_app, ok_ifS, ok_for, ok_whl, ok_ret, late_k, late_op, late_and_, late_or_, late_not_, late_ite, late_chain, late_call, late_fld, late_met, late_sl, late_lc, late_pop, late_mv, late_callK, late_mkK, late_v, late_nil, get_c0, get_cs, List.set_cons_zero, List.set_cons_succ, stK_n, setKs_nil, setKs_n, Option.bind_some, Option.map_some, Option.some.injEq, exists_eq_left', exists_eq_left, pr_call, pr_fi, List.append_nil, List.cons_append, List.nil_append, List.map_cons, List.map_nil, List.replicate_succ, List.replicate_zero, D.int.injEq, D.bl.injEq, D.lst.injEq, D.str.injEq, D.tup.injEq, pd_sub, pd_eqI, pd_eqB, pd_eqS, pd_neI, pd_neB, pd_neS, pd_ltI, pd_leI, pd_gtI, pd_geI, pd_leS, pd_isN, pd_intI, pd_list, pd_listT, pd_tuple, pd_dct, truth, isNonD, reduceCtorEq, if_true, if_false, reduceIte, Bool.false_eq_true, Bool.not_true, Bool.not_false, List.length_cons, List.length_nil, true_and, and_true, exists_const, exists_eq', List.headD_cons, pd_l0, pd_t0, pd_l1, pd_t1, pd_l2, pd_t2, pd_l3, pd_t3, pd_l4, pd_t4, pd_l5, pd_t5, pd_l6, pd_t6, pd_l7, pd_t7, pd_l8, pd_t8, pd_l9, pd_t9, pd_l10, pd_t10, pd_l11, pd_t11, pd_l12, pd_t12, exists_eq, ok_own, okT_own, late_own, List.getElem?_cons_zero, List.getElem?_cons_succ, nx_ret, wipeE, backE, endQ, Fi.io, outsOf, isM, List.headD_cons, List.tail_cons, back, pickE, pick, sh_eq h1]
    refine Z1.imp ?_
    rintro _ _ ⟨rfl, rfl⟩
    refine ⟨rfl, _, _, rfl, ?_⟩
    simp only [ok_v, ok_k, ok_op, ok_and, ok_or, ok_not, ok_if, ok_chain, ok_call, ok_callK, ok_mkK, ok_fld, ok_met, ok_sl, ok_mv, ok_lc, ok_pop, ok_es0, ok_es, ok_o0, ok_o1, okT_and, okT_or, okT_not, okT_k, okT_op, okT_ite, okT_chain, okT_call, okT_fld, okT_lc, okT_pop, okT_callK, okT_v, okTs0, okTs1, okI_val, okI_rng, okI_rng2, okI_zip, okI_enu, okI_slot, ok_pass, ok_brk, ok_cont, ok_expr, ok_set, ok_par, ok_unp, ok_augA, ok_seti, ok_setf, ok_app, ok_ifS, ok_for, ok_whl, ok_ret, late_k, late_op, late_and_, late_or_, late_not_, late_ite, late_chain, late_call, late_fld, late_met, late_sl, late_lc, late_pop, late_mv, late_callK, late_mkK, late_v, late_nil, get_c0, get_cs, List.set_cons_zero, List.set_cons_succ, stK_n, setKs_nil, setKs_n, Option.bind_some, Option.map_some, Option.some.injEq, exists_eq_left', exists_eq_left, pr_call, pr_fi, List.append_nil, List.cons_append, List.nil_append, List.map_cons, List.map_nil, List.replicate_succ, List.replicate_zero, D.int.injEq, D.bl.injEq, D.lst.injEq, D.str.injEq, D.tup.injEq, pd_sub, pd_eqI, pd_eqB, pd_eqS, pd_neI, pd_neB, pd_neS, pd_ltI, pd_leI, pd_gtI, pd_geI, pd_leS, pd_isN, pd_intI, pd_list, pd_listT, pd_tuple, pd_dct, truth, isNonD, reduceCtorEq, if_true, if_false, reduceIte, Bool.false_eq_true, Bool.not_true, Bool.not_false, List.length_cons, List.length_nil, true_and, and_true, exists_const, exists_eq', List.headD_cons, pd_l0, pd_t0, pd_l1, pd_t1, pd_l2, pd_t2, pd_l3, pd_t3, pd_l4, pd_t4, pd_l5, pd_t5, pd_l6, pd_t6, pd_l7, pd_t7, pd_l8, pd_t8, pd_l9, pd_t9, pd_l10, pd_t10, pd_l11, pd_t11, pd_l12, pd_t12, exists_eq, ok_own, okT_own, late_own, List.getElem?_cons_zero, List.getElem?_cons_succ, nx_ret, wipeE, backE, endQ, Fi.io, outsOf, isM, List.headD_cons, List.tail_cons, back, pickE, pick, f3, List.drop_succ_cons, List.drop_zero, idx0]
    refine ⟨.bl true, ?_, ?_⟩
    · show (if (pg.prOf (pg.callN 10000000000000000000000000000000000000000 39)).eqs _ _ = true then some (D.bl true) else none) = some (.bl true)
      rw [if_pos (o_eqs (n := 38) P (fun x hx => by
        simp only [List.mem_cons, List.not_mem_nil, or_false] at hx
        rcases hx with rfl | rfl | rfl <;> exact ⟨_, _, rfl⟩))]
    simp only [ok_v, ok_k, ok_op, ok_and, ok_or, ok_not, ok_if, ok_chain, ok_call, ok_callK, ok_mkK, ok_fld, ok_met, ok_sl, ok_mv, ok_lc, ok_pop, ok_es0, ok_es, ok_o0, ok_o1, okT_and, okT_or, okT_not, okT_k, okT_op, okT_ite, okT_chain, okT_call, okT_fld, okT_lc, okT_pop, okT_callK, okT_v, okTs0, okTs1, okI_val, okI_rng, okI_rng2, okI_zip, okI_enu, okI_slot, ok_pass, ok_brk, ok_cont, ok_expr, ok_set, ok_par, ok_unp, ok_augA, ok_seti, ok_setf, ok_app, ok_ifS, ok_for, ok_whl, ok_ret, late_k, late_op, late_and_, late_or_, late_not_, late_ite, late_chain, late_call, late_fld, late_met, late_sl, late_lc, late_pop, late_mv, late_callK, late_mkK, late_v, late_nil, get_c0, get_cs, List.set_cons_zero, List.set_cons_succ, stK_n, setKs_nil, setKs_n, Option.bind_some, Option.map_some, Option.some.injEq, exists_eq_left', exists_eq_left, pr_call, pr_fi, List.append_nil, List.cons_append, List.nil_append, List.map_cons, List.map_nil, List.replicate_succ, List.replicate_zero, D.int.injEq, D.bl.injEq, D.lst.injEq, D.str.injEq, D.tup.injEq, pd_sub, pd_eqI, pd_eqB, pd_eqS, pd_neI, pd_neB, pd_neS, pd_ltI, pd_leI, pd_gtI, pd_geI, pd_leS, pd_isN, pd_intI, pd_list, pd_listT, pd_tuple, pd_dct, truth, isNonD, reduceCtorEq, if_true, if_false, reduceIte, Bool.false_eq_true, Bool.not_true, Bool.not_false, List.length_cons, List.length_nil, true_and, and_true, exists_const, exists_eq', List.headD_cons, pd_l0, pd_t0, pd_l1, pd_t1, pd_l2, pd_t2, pd_l3, pd_t3, pd_l4, pd_t4, pd_l5, pd_t5, pd_l6, pd_t6, pd_l7, pd_t7, pd_l8, pd_t8, pd_l9, pd_t9, pd_l10, pd_t10, pd_l11, pd_t11, pd_l12, pd_t12, exists_eq, ok_own, okT_own, late_own, List.getElem?_cons_zero, List.getElem?_cons_succ, nx_ret, wipeE, backE, endQ, Fi.io, outsOf, isM, List.headD_cons, List.tail_cons, back, pickE, pick]
    refine st_end0 (st_end ?_)
    exact ⟨t7, _, rfl, rfl, hb5.mono (by omega)⟩
  · rintro e ⟨b, r, rfl, hr, hb⟩
    match r, hr with
    | [x2, x3, x4, x5, x6, x7, x8, x9, x10, x11, x12, x13, x14, x15, x16, x17, x18], _ =>
    refine ⟨rfl, ?_⟩
    refine st_nx ?_
    have Z1 : (pg.callN 10000000000000000000000000000000000000000 39 3 [.obj 0 [], .int 1, .int 2]).Ok fun d o => d = .non ∧ o = [some (pw 1 2), none, none] := mk39 (a := 1) (b := 2) (by decide) (by decide)
    have Z2 : (pg.callN 10000000000000000000000000000000000000000 39 3 [.obj 0 [], .int 1, .int 1]).Ok fun d o => d = .non ∧ o = [some (pw 1 1), none, none] := mk39 (a := 1) (b := 1) (by decide) (by decide)
    have Z3 : (pg.callN 10000000000000000000000000000000000000000 39 3 [.obj 0 [], .int 1, .int 3]).Ok fun d o => d = .non ∧ o = [some (pw 1 3), none, none] := mk39 (a := 1) (b := 3) (by decide) (by decide)
    have G1 : (pg.prOf (pg.callN 10000000000000000000000000000000000000000 39)).ownD (.stat 0 "total") [pw 1 2, pw 1 2] = some (pw 4 4) := o_stat (n := 36) (rows := [(1, 2), (1, 2)]) P d14 rfl hK (fun r hr => by
      simp only [List.mem_cons, List.not_mem_nil, or_false, or_self] at hr
      subst hr
      decide) (by decide)
    have G2 : (pg.prOf (pg.callN 10000000000000000000000000000000000000000 39)).ownD .eq [pw 4 4, pw 1 1] = some (.bl true) := by
      rw [show pw 4 4 = pw 1 1 from rfl]
      exact pO_eq (n := 38) P
    have G3 : (pg.prOf (pg.callN 10000000000000000000000000000000000000000 39)).ownD .mul [pw 1 3, .int 3] = some (pw 3 3) := o_mulI (n := 36) (c := 3) P hK (by decide) (by decide) (by decide) (by decide)
    have G4 : (pg.prOf (pg.callN 10000000000000000000000000000000000000000 39)).ownD .add [pw 3 3, .int 2] = some (pw 9 3) := o_addI (n := 36) (c := 2) P hK (by decide) (by decide) (by decide) (by decide)
    have G5 : (pg.prOf (pg.callN 10000000000000000000000000000000000000000 39)).ownD .str [pw 9 3] = some (.str [51]) := o_str3 (n := 38) P
    try simp only [ok_v, ok_k, ok_op, ok_and, ok_or, ok_not, ok_if, ok_chain, ok_call, ok_callK, ok_mkK, ok_fld, ok_met, ok_sl, ok_mv, ok_lc, ok_pop, ok_es0, ok_es, ok_o0, ok_o1, okT_and, okT_or, okT_not, okT_k, okT_op, okT_ite, okT_chain, okT_call, okT_fld, okT_lc, okT_pop, okT_callK, okT_v, okTs0, okTs1, okI_val, okI_rng, okI_rng2, okI_zip, okI_enu, okI_slot, ok_pass, ok_brk, ok_cont, ok_expr, ok_set, ok_par, ok_unp, ok_augA, ok_seti, ok_setf, ok_app, ok_ifS, ok_for, ok_whl, ok_ret, late_k, late_op, late_and_, late_or_, late_not_, late_ite, late_chain, late_call, late_fld, late_met, late_sl, late_lc, late_pop, late_mv, late_callK, late_mkK, late_v, late_nil, get_c0, get_cs, List.set_cons_zero, List.set_cons_succ, stK_n, setKs_nil, setKs_n, Option.bind_some, Option.map_some, Option.some.injEq, exists_eq_left', exists_eq_left, pr_call, pr_fi, List.append_nil, List.cons_append, List.nil_append, List.map_cons, List.map_nil, List.replicate_succ, List.replicate_zero, D.int.injEq, D.bl.injEq, D.lst.injEq, D.str.injEq, D.tup.injEq, pd_sub, pd_eqI, pd_eqB, pd_eqS, pd_neI, pd_neB, pd_neS, pd_ltI, pd_leI, pd_gtI, pd_geI, pd_leS, pd_isN, pd_intI, pd_list, pd_listT, pd_tuple, pd_dct, truth, isNonD, reduceCtorEq, if_true, if_false, reduceIte, Bool.false_eq_true, Bool.not_true, Bool.not_false, List.length_cons, List.length_nil, true_and, and_true, exists_const, exists_eq', List.headD_cons, pd_l0, pd_t0, pd_l1, pd_t1, pd_l2, pd_t2, pd_l3, pd_t3, pd_l4, pd_t4, pd_l5, pd_t5, pd_l6, pd_t6, pd_l7, pd_t7, pd_l8, pd_t8, pd_l9, pd_t9, pd_l10, pd_t10, pd_l11, pd_t11, pd_l12, pd_t12, exists_eq, ok_own, okT_own, late_own, List.getElem?_cons_zero, List.getElem?_cons_succ, nx_ret, wipeE, backE, endQ, Fi.io, outsOf, isM, List.headD_cons, List.tail_cons, back, pickE, pick, sh_eq h0]
    refine Z1.imp ?_
    rintro _ _ ⟨rfl, rfl⟩
    refine ⟨rfl, _, _, rfl, ?_⟩
    try simp only [ok_v, ok_k, ok_op, ok_and, ok_or, ok_not, ok_if, ok_chain, ok_call, ok_callK, ok_mkK, ok_fld, ok_met, ok_sl, ok_mv, ok_lc, ok_pop, ok_es0, ok_es, ok_o0, ok_o1, okT_and, okT_or, okT_not, okT_k, okT_op, okT_ite, okT_chain, okT_call, okT_fld, okT_lc, okT_pop, okT_callK, okT_v, okTs0, okTs1, okI_val, okI_rng, okI_rng2, okI_zip, okI_enu, okI_slot, ok_pass, ok_brk, ok_cont, ok_expr, ok_set, ok_par, ok_unp, ok_augA, ok_seti, ok_setf, ok_app, ok_ifS, ok_for, ok_whl, ok_ret, late_k, late_op, late_and_, late_or_, late_not_, late_ite, late_chain, late_call, late_fld, late_met, late_sl, late_lc, late_pop, late_mv, late_callK, late_mkK, late_v, late_nil, get_c0, get_cs, List.set_cons_zero, List.set_cons_succ, stK_n, setKs_nil, setKs_n, Option.bind_some, Option.map_some, Option.some.injEq, exists_eq_left', exists_eq_left, pr_call, pr_fi, List.append_nil, List.cons_append, List.nil_append, List.map_cons, List.map_nil, List.replicate_succ, List.replicate_zero, D.int.injEq, D.bl.injEq, D.lst.injEq, D.str.injEq, D.tup.injEq, pd_sub, pd_eqI, pd_eqB, pd_eqS, pd_neI, pd_neB, pd_neS, pd_ltI, pd_leI, pd_gtI, pd_geI, pd_leS, pd_isN, pd_intI, pd_list, pd_listT, pd_tuple, pd_dct, truth, isNonD, reduceCtorEq, if_true, if_false, reduceIte, Bool.false_eq_true, Bool.not_true, Bool.not_false, List.length_cons, List.length_nil, true_and, and_true, exists_const, exists_eq', List.headD_cons, pd_l0, pd_t0, pd_l1, pd_t1, pd_l2, pd_t2, pd_l3, pd_t3, pd_l4, pd_t4, pd_l5, pd_t5, pd_l6, pd_t6, pd_l7, pd_t7, pd_l8, pd_t8, pd_l9, pd_t9, pd_l10, pd_t10, pd_l11, pd_t11, pd_l12, pd_t12, exists_eq, ok_own, okT_own, late_own, List.getElem?_cons_zero, List.getElem?_cons_succ, nx_ret, wipeE, backE, endQ, Fi.io, outsOf, isM, List.headD_cons, List.tail_cons, back, pickE, pick, f3, List.drop_succ_cons, List.drop_zero, sh_eq h0]
    refine Z1.imp ?_
    rintro _ _ ⟨rfl, rfl⟩
    refine ⟨rfl, _, _, rfl, ?_⟩
    try simp only [ok_v, ok_k, ok_op, ok_and, ok_or, ok_not, ok_if, ok_chain, ok_call, ok_callK, ok_mkK, ok_fld, ok_met, ok_sl, ok_mv, ok_lc, ok_pop, ok_es0, ok_es, ok_o0, ok_o1, okT_and, okT_or, okT_not, okT_k, okT_op, okT_ite, okT_chain, okT_call, okT_fld, okT_lc, okT_pop, okT_callK, okT_v, okTs0, okTs1, okI_val, okI_rng, okI_rng2, okI_zip, okI_enu, okI_slot, ok_pass, ok_brk, ok_cont, ok_expr, ok_set, ok_par, ok_unp, ok_augA, ok_seti, ok_setf, ok_app, ok_ifS, ok_for, ok_whl, ok_ret, late_k, late_op, late_and_, late_or_, late_not_, late_ite, late_chain, late_call, late_fld, late_met, late_sl, late_lc, late_pop, late_mv, late_callK, late_mkK, late_v, late_nil, get_c0, get_cs, List.set_cons_zero, List.set_cons_succ, stK_n, setKs_nil, setKs_n, Option.bind_some, Option.map_some, Option.some.injEq, exists_eq_left', exists_eq_left, pr_call, pr_fi, List.append_nil, List.cons_append, List.nil_append, List.map_cons, List.map_nil, List.replicate_succ, List.replicate_zero, D.int.injEq, D.bl.injEq, D.lst.injEq, D.str.injEq, D.tup.injEq, pd_sub, pd_eqI, pd_eqB, pd_eqS, pd_neI, pd_neB, pd_neS, pd_ltI, pd_leI, pd_gtI, pd_geI, pd_leS, pd_isN, pd_intI, pd_list, pd_listT, pd_tuple, pd_dct, truth, isNonD, reduceCtorEq, if_true, if_false, reduceIte, Bool.false_eq_true, Bool.not_true, Bool.not_false, List.length_cons, List.length_nil, true_and, and_true, exists_const, exists_eq', List.headD_cons, pd_l0, pd_t0, pd_l1, pd_t1, pd_l2, pd_t2, pd_l3, pd_t3, pd_l4, pd_t4, pd_l5, pd_t5, pd_l6, pd_t6, pd_l7, pd_t7, pd_l8, pd_t8, pd_l9, pd_t9, pd_l10, pd_t10, pd_l11, pd_t11, pd_l12, pd_t12, exists_eq, ok_own, okT_own, late_own, List.getElem?_cons_zero, List.getElem?_cons_succ, nx_ret, wipeE, backE, endQ, Fi.io, outsOf, isM, List.headD_cons, List.tail_cons, back, pickE, pick, f3, List.drop_succ_cons, List.drop_zero, sh_eq h1, G1]
    refine Z2.imp ?_
    rintro _ _ ⟨rfl, rfl⟩
    refine ⟨rfl, _, _, rfl, ?_⟩
    try simp only [ok_v, ok_k, ok_op, ok_and, ok_or, ok_not, ok_if, ok_chain, ok_call, ok_callK, ok_mkK, ok_fld, ok_met, ok_sl, ok_mv, ok_lc, ok_pop, ok_es0, ok_es, ok_o0, ok_o1, okT_and, okT_or, okT_not, okT_k, okT_op, okT_ite, okT_chain, okT_call, okT_fld, okT_lc, okT_pop, okT_callK, okT_v, okTs0, okTs1, okI_val, okI_rng, okI_rng2, okI_zip, okI_enu, okI_slot, ok_pass, ok_brk, ok_cont, ok_expr, ok_set, ok_par, ok_unp, ok_augA, ok_seti, ok_setf, ok_app, ok_ifS, ok_for, ok_whl, ok_ret, late_k, late_op, late_and_, late_or_, late_not_, late_ite, late_chain, late_call, late_fld, late_met, late_sl, late_lc, late_pop, late_mv, late_callK, late_mkK, late_v, late_nil, get_c0, get_cs, List.set_cons_zero, List.set_cons_succ, stK_n, setKs_nil, setKs_n, Option.bind_some, Option.map_some, Option.some.injEq, exists_eq_left', exists_eq_left, pr_call, pr_fi, List.append_nil, List.cons_append, List.nil_append, List.map_cons, List.map_nil, List.replicate_succ, List.replicate_zero, D.int.injEq, D.bl.injEq, D.lst.injEq, D.str.injEq, D.tup.injEq, pd_sub, pd_eqI, pd_eqB, pd_eqS, pd_neI, pd_neB, pd_neS, pd_ltI, pd_leI, pd_gtI, pd_geI, pd_leS, pd_isN, pd_intI, pd_list, pd_listT, pd_tuple, pd_dct, truth, isNonD, reduceCtorEq, if_true, if_false, reduceIte, Bool.false_eq_true, Bool.not_true, Bool.not_false, List.length_cons, List.length_nil, true_and, and_true, exists_const, exists_eq', List.headD_cons, pd_l0, pd_t0, pd_l1, pd_t1, pd_l2, pd_t2, pd_l3, pd_t3, pd_l4, pd_t4, pd_l5, pd_t5, pd_l6, pd_t6, pd_l7, pd_t7, pd_l8, pd_t8, pd_l9, pd_t9, pd_l10, pd_t10, pd_l11, pd_t11, pd_l12, pd_t12, exists_eq, ok_own, okT_own, late_own, List.getElem?_cons_zero, List.getElem?_cons_succ, nx_ret, wipeE, backE, endQ, Fi.io, outsOf, isM, List.headD_cons, List.tail_cons, back, pickE, pick, f3, List.drop_succ_cons, List.drop_zero, sh_eq h0, G2]
    refine Z3.imp ?_
    rintro _ _ ⟨rfl, rfl⟩
    refine ⟨rfl, _, _, rfl, ?_⟩
    try simp only [ok_v, ok_k, ok_op, ok_and, ok_or, ok_not, ok_if, ok_chain, ok_call, ok_callK, ok_mkK, ok_fld, ok_met, ok_sl, ok_mv, ok_lc, ok_pop, ok_es0, ok_es, ok_o0, ok_o1, okT_and, okT_or, okT_not, okT_k, okT_op, okT_ite, okT_chain, okT_call, okT_fld, okT_lc, okT_pop, okT_callK, okT_v, okTs0, okTs1, okI_val, okI_rng, okI_rng2, okI_zip, okI_enu, okI_slot, ok_pass, ok_brk, ok_cont, ok_expr, ok_set, ok_par, ok_unp, ok_augA, ok_seti, ok_setf, ok_app, ok_ifS, ok_for, ok_whl, ok_ret, late_k, late_op, late_and_, late_or_, late_not_, late_ite, late_chain, late_call, late_fld, late_met, late_sl, late_lc, late_pop, late_mv, late_callK, late_mkK, late_v, late_nil, get_c0, get_cs, List.set_cons_zero, List.set_cons_succ, stK_n, setKs_nil, setKs_n, Option.bind_some, Option.map_some, Option.some.injEq, exists_eq_left', exists_eq_left, pr_call, pr_fi, List.append_nil, List.cons_append, List.nil_append, List.map_cons, List.map_nil, List.replicate_succ, List.replicate_zero, D.int.injEq, D.bl.injEq, D.lst.injEq, D.str.injEq, D.tup.injEq, pd_sub, pd_eqI, pd_eqB, pd_eqS, pd_neI, pd_neB, pd_neS, pd_ltI, pd_leI, pd_gtI, pd_geI, pd_leS, pd_isN, pd_intI, pd_list, pd_listT, pd_tuple, pd_dct, truth, isNonD, reduceCtorEq, if_true, if_false, reduceIte, Bool.false_eq_true, Bool.not_true, Bool.not_false, List.length_cons, List.length_nil, true_and, and_true, exists_const, exists_eq', List.headD_cons, pd_l0, pd_t0, pd_l1, pd_t1, pd_l2, pd_t2, pd_l3, pd_t3, pd_l4, pd_t4, pd_l5, pd_t5, pd_l6, pd_t6, pd_l7, pd_t7, pd_l8, pd_t8, pd_l9, pd_t9, pd_l10, pd_t10, pd_l11, pd_t11, pd_l12, pd_t12, exists_eq, ok_own, okT_own, late_own, List.getElem?_cons_zero, List.getElem?_cons_succ, nx_ret, wipeE, backE, endQ, Fi.io, outsOf, isM, List.headD_cons, List.tail_cons, back, pickE, pick, f3, List.drop_succ_cons, List.drop_zero, G3, G4, G5, beq_self_eq_true]
theorem plain (ns : List Int) (hl : ns.length ≤ 63) : ∃ outs, pg.callN 10000000000000000000000000000000000000000 40 0 [.scr ns] = .ok (.bl true) outs := by
  have : (pg.callN 10000000000000000000000000000000000000000 40 0 [.scr ns]).Ok fun d _ => d = .bl true := by
    refine callN_ok (d := df_law) rfl rfl ?_
    refine st_go ?_
    simp only [ok_v, ok_k, ok_op, ok_and, ok_or, ok_not, ok_if, ok_chain, ok_call, ok_callK, ok_mkK, ok_fld, ok_met, ok_sl, ok_mv, ok_lc, ok_pop, ok_es0, ok_es, ok_o0, ok_o1, okT_and, okT_or, okT_not, okT_k, okT_op, okT_ite, okT_chain, okT_call, okT_fld, okT_lc, okT_pop, okT_callK, okT_v, okTs0, okTs1, okI_val, okI_rng, okI_rng2, okI_zip, okI_enu, okI_slot, ok_pass, ok_brk, ok_cont, ok_expr, ok_set, ok_par, ok_unp, ok_augA, ok_seti, ok_setf, ok_app, ok_ifS, ok_for, ok_whl, ok_ret, late_k, late_op, late_and_, late_or_, late_not_, late_ite, late_chain, late_call, late_fld, late_met, late_sl, late_lc, late_pop, late_mv, late_callK, late_mkK, late_v, late_nil, get_c0, get_cs, List.set_cons_zero, List.set_cons_succ, stK_n, setKs_nil, setKs_n, Option.bind_some, Option.map_some, Option.some.injEq, exists_eq_left', exists_eq_left, pr_call, pr_fi, List.append_nil, List.cons_append, List.nil_append, List.map_cons, List.map_nil, List.replicate_succ, List.replicate_zero, D.int.injEq, D.bl.injEq, D.lst.injEq, D.str.injEq, D.tup.injEq, pd_sub, pd_eqI, pd_eqB, pd_eqS, pd_neI, pd_neB, pd_neS, pd_ltI, pd_leI, pd_gtI, pd_geI, pd_leS, pd_isN, pd_intI, pd_list, pd_listT, pd_tuple, pd_dct, truth, isNonD, reduceCtorEq, if_true, if_false, reduceIte, Bool.false_eq_true, Bool.not_true, Bool.not_false, List.length_cons, List.length_nil, true_and, and_true, exists_const, exists_eq', List.headD_cons, pd_l0, pd_t0, pd_l1, pd_t1, pd_l2, pd_t2, pd_l3, pd_t3, pd_l4, pd_t4, pd_l5, pd_t5, pd_l6, pd_t6, pd_l7, pd_t7, pd_l8, pd_t8, pd_l9, pd_t9, pd_l10, pd_t10, pd_l11, pd_t11, pd_l12, pd_t12, exists_eq, ok_own, okT_own, late_own, df_law]
    refine (draws_ok d1).imp ?_
    rintro b _ ⟨rfl, hb⟩
    simp only [ok_v, ok_k, ok_op, ok_and, ok_or, ok_not, ok_if, ok_chain, ok_call, ok_callK, ok_mkK, ok_fld, ok_met, ok_sl, ok_mv, ok_lc, ok_pop, ok_es0, ok_es, ok_o0, ok_o1, okT_and, okT_or, okT_not, okT_k, okT_op, okT_ite, okT_chain, okT_call, okT_fld, okT_lc, okT_pop, okT_callK, okT_v, okTs0, okTs1, okI_val, okI_rng, okI_rng2, okI_zip, okI_enu, okI_slot, ok_pass, ok_brk, ok_cont, ok_expr, ok_set, ok_par, ok_unp, ok_augA, ok_seti, ok_setf, ok_app, ok_ifS, ok_for, ok_whl, ok_ret, late_k, late_op, late_and_, late_or_, late_not_, late_ite, late_chain, late_call, late_fld, late_met, late_sl, late_lc, late_pop, late_mv, late_callK, late_mkK, late_v, late_nil, get_c0, get_cs, List.set_cons_zero, List.set_cons_succ, stK_n, setKs_nil, setKs_n, Option.bind_some, Option.map_some, Option.some.injEq, exists_eq_left', exists_eq_left, pr_call, pr_fi, List.append_nil, List.cons_append, List.nil_append, List.map_cons, List.map_nil, List.replicate_succ, List.replicate_zero, D.int.injEq, D.bl.injEq, D.lst.injEq, D.str.injEq, D.tup.injEq, pd_sub, pd_eqI, pd_eqB, pd_eqS, pd_neI, pd_neB, pd_neS, pd_ltI, pd_leI, pd_gtI, pd_geI, pd_leS, pd_isN, pd_intI, pd_list, pd_listT, pd_tuple, pd_dct, truth, isNonD, reduceCtorEq, if_true, if_false, reduceIte, Bool.false_eq_true, Bool.not_true, Bool.not_false, List.length_cons, List.length_nil, true_and, and_true, exists_const, exists_eq', List.headD_cons, pd_l0, pd_t0, pd_l1, pd_t1, pd_l2, pd_t2, pd_l3, pd_t3, pd_l4, pd_t4, pd_l5, pd_t5, pd_l6, pd_t6, pd_l7, pd_t7, pd_l8, pd_t8, pd_l9, pd_t9, pd_l10, pd_t10, pd_l11, pd_t11, pd_l12, pd_t12, exists_eq, ok_own, okT_own, late_own, List.getElem?_cons_zero, List.getElem?_cons_succ, nx_ret, wipeE, backE, endQ, Fi.io, outsOf, isM, List.headD_cons, List.tail_cons, back, pickE, pick, f1, stK_m hb.isM]
    exact plain_body b ns (hb.mono (by decide))
  obtain ⟨d, o, h1, h2⟩ := this
  subst h2
  exact ⟨o, h1⟩
end K
namespace K
open PySem L2 TE
def top (i : Nat) : Stmt := PySem.Challenge.pw_waysbelow_k04_powers_added_and_multiplie.main.body.getD i (.Pass ⟨0, 0, 0, 0⟩)
def T : Tb := ⟨[("law", 0), ("_law_draws", 1), ("_law_any", 2), ("_law_like", 4), ("_law_pull", 5), ("greatest_factor", 6), ("is_number", 7)], [("Power", 0)], ["all", "any", "bool", "dict", "enumerate", "int", "isinstance", "len", "list", "max", "min", "range", "str", "sum", "tuple", "zip"], 1, [0, 1, 2, 4, 5, 6, 7]⟩
def st_law : Stmt := top 14
theorem ck_law : chkD T pg df_law [("_law_script" : Str), ("_law_bag" : Str), ("_law_turn" : Str), ("_law_rows" : Str), ("_law_a" : Str), ("_law_b" : Str), ("_law_c" : Str), ("_law_one" : Str), ("_law_two" : Str), ("_law_both" : Str), ("_law_times" : Str), ("_law_told" : Str), ("_law_due" : Str), ("_law_k" : Str), ("_law_some" : Str), ("_law_last" : Str), ("_law_totals" : Str), ("_law_step" : Str), ("_law_row" : Str)] [("_law_script" : Str)] st_law = true := by decide +kernel
def st__law_draws : Stmt := top 10
theorem ck__law_draws : chkD T pg df__law_draws [("_law_script" : Str)] [("_law_script" : Str)] st__law_draws = true := by decide +kernel
def st__law_any : Stmt := top 12
theorem ck__law_any : chkD T pg df__law_any [("_law_bag" : Str), ("_law_things" : Str)] [("_law_bag" : Str), ("_law_things" : Str)] st__law_any = true := by decide +kernel
def st_Power___init__ : Stmt := (C8.clsBody (top 7)).getD 0 (.Pass ⟨0, 0, 0, 0⟩)
theorem ck_Power___init__ : chkD T pg df_Power___init__ [("self" : Str), ("top" : Str), ("bottom" : Str), ("shared" : Str)] [("self" : Str), ("top" : Str), ("bottom" : Str)] st_Power___init__ = true := by decide +kernel
def st__law_like : Stmt := top 13
theorem ck__law_like : chkD T pg df__law_like [("_law_found" : Str), ("_law_due" : Str), ("_law_name" : Str), ("_law_one" : Str), ("_law_other" : Str)] [("_law_found" : Str), ("_law_due" : Str)] st__law_like = true := by decide +kernel
def st__law_pull : Stmt := top 11
theorem ck__law_pull : chkD T pg df__law_pull [("_law_bag" : Str), ("_law_many" : Str), ("_law_seed" : Str), ("_law_cell" : Str), ("_law_digit" : Str)] [("_law_bag" : Str), ("_law_many" : Str)] st__law_pull = true := by decide +kernel
def st_greatest_factor : Stmt := top 6
theorem ck_greatest_factor : chkD T pg df_greatest_factor [("one" : Str), ("other" : Str)] [("one" : Str), ("other" : Str)] st_greatest_factor = true := by decide +kernel
def st_is_number : Stmt := top 5
theorem ck_is_number : chkD T pg df_is_number [("value" : Str)] [("value" : Str)] st_is_number = true := by decide +kernel
def st_Power___add__ : Stmt := (C8.clsBody (top 7)).getD 5 (.Pass ⟨0, 0, 0, 0⟩)
theorem ck_Power___add__ : chkD T pg df_Power___add__ [("self" : Str), ("other" : Str)] [("self" : Str), ("other" : Str)] st_Power___add__ = true := by decide +kernel
def st_Power___radd__ : Stmt := (C8.clsBody (top 7)).getD 6 (.Pass ⟨0, 0, 0, 0⟩)
theorem ck_Power___radd__ : chkD T pg df_Power___radd__ [("self" : Str), ("other" : Str)] [("self" : Str), ("other" : Str)] st_Power___radd__ = true := by decide +kernel
def st_Power___mul__ : Stmt := (C8.clsBody (top 7)).getD 7 (.Pass ⟨0, 0, 0, 0⟩)
theorem ck_Power___mul__ : chkD T pg df_Power___mul__ [("self" : Str), ("other" : Str)] [("self" : Str), ("other" : Str)] st_Power___mul__ = true := by decide +kernel
def st_Power___rmul__ : Stmt := (C8.clsBody (top 7)).getD 8 (.Pass ⟨0, 0, 0, 0⟩)
theorem ck_Power___rmul__ : chkD T pg df_Power___rmul__ [("self" : Str), ("other" : Str)] [("self" : Str), ("other" : Str)] st_Power___rmul__ = true := by decide +kernel
def st_Power___eq__ : Stmt := (C8.clsBody (top 7)).getD 9 (.Pass ⟨0, 0, 0, 0⟩)
theorem ck_Power___eq__ : chkD T pg df_Power___eq__ [("self" : Str), ("other" : Str)] [("self" : Str), ("other" : Str)] st_Power___eq__ = true := by decide +kernel
def st_Power___str__ : Stmt := (C8.clsBody (top 7)).getD 11 (.Pass ⟨0, 0, 0, 0⟩)
theorem ck_Power___str__ : chkD T pg df_Power___str__ [("self" : Str)] [("self" : Str)] st_Power___str__ = true := by decide +kernel
def st_Power_total : Stmt := (C8.clsBody (top 7)).getD 3 (.Pass ⟨0, 0, 0, 0⟩)
theorem ck_Power_total : chkD T pg df_Power_total [("powers" : Str), ("top" : Str), ("bottom" : Str), ("power" : Str)] [("powers" : Str)] st_Power_total = true := by decide +kernel
theorem D_law {K : PySem.W.Frag} {f : Addr} {od an : Option Addr} {sl : Array (Option Value)} {oc kV dc pm cd ct : Value} (l : K.lookup f = some ⟨oc, od, .func (PySem.W.fnOf "law" "law" (C8.fnArgs st_law) (C8.fnBody st_law) (C8.fnScope st_law) .none kV dc pm an cd ct), sl⟩) (c : PySem.W.codeIn K cd "law" = true) : ∃ fd, (C8.Fun K "law" "law" st_law f fd) ∧ (Binds K fd [("_law_script" : Str)] []) ∧ (∀ (s : Shared) (u : Value), BindsTo s fd ⟨[u], []⟩ [("_law_script", u)]) :=
  ⟨_, fun_of l c, (fun_of l c).binds rfl fun kV doc pm an cdv ct us hl => match us, hl with | [a0], _ => rfl, fun s u => .of_eq rfl⟩
theorem D__law_draws {K : PySem.W.Frag} {f : Addr} {od an : Option Addr} {sl : Array (Option Value)} {oc kV dc pm cd ct : Value} (l : K.lookup f = some ⟨oc, od, .func (PySem.W.fnOf "_law_draws" "_law_draws" (C8.fnArgs st__law_draws) (C8.fnBody st__law_draws) (C8.fnScope st__law_draws) .none kV dc pm an cd ct), sl⟩) (c : PySem.W.codeIn K cd "_law_draws" = true) : ∃ fd, (C8.Fun K "_law_draws" "_law_draws" st__law_draws f fd) ∧ (Binds K fd [("_law_script" : Str)] []) :=
  ⟨_, fun_of l c, (fun_of l c).binds rfl fun kV doc pm an cdv ct us hl => match us, hl with | [a0], _ => rfl⟩
theorem D__law_any {K : PySem.W.Frag} {f : Addr} {od an : Option Addr} {sl : Array (Option Value)} {oc kV dc pm cd ct : Value} (l : K.lookup f = some ⟨oc, od, .func (PySem.W.fnOf "_law_any" "_law_any" (C8.fnArgs st__law_any) (C8.fnBody st__law_any) (C8.fnScope st__law_any) .none kV dc pm an cd ct), sl⟩) (c : PySem.W.codeIn K cd "_law_any" = true) : ∃ fd, (C8.Fun K "_law_any" "_law_any" st__law_any f fd) ∧ (Binds K fd [("_law_bag" : Str), ("_law_things" : Str)] []) :=
  ⟨_, fun_of l c, (fun_of l c).binds rfl fun kV doc pm an cdv ct us hl => match us, hl with | [a0, a1], _ => rfl⟩
theorem D_Power___init__ {K : PySem.W.Frag} {f : Addr} {od an : Option Addr} {sl : Array (Option Value)} {oc kV dc pm cd ct : Value} {T : Addr} {to : Value} {td : Option Addr} {ts : Array (Option Value)} {tn : Nat} {tk_0 : Tok} (l : K.lookup f = some ⟨oc, od, .func (PySem.W.fnOf "__init__" "Power.__init__" (C8.fnArgs st_Power___init__) (C8.fnBody st_Power___init__) (C8.fnScope st_Power___init__) (.ref T) kV dc pm an cd ct), sl⟩) (c : PySem.W.codeIn K cd "Power.__init__" = true) (t : K.lookup T = some ⟨to, td, .seq (List.toArray [Value.int 1 tk_0]) tn, ts⟩) : ∃ fd, (C8.Fun K "__init__" "Power.__init__" st_Power___init__ f fd) ∧ (∃ gU, KBn K fd [("self" : Str), ("top" : Str), ("bottom" : Str)] (2 + 1) [] gU fun vs zs => vs.headD .non :: pickV [.inl 0, .inl 1] (fun j => ([V.int 1] : List V).getD j .non) (vs.tail ++ zs)) ∧ (∃ gU, KBn K fd [("self" : Str), ("top" : Str), ("bottom" : Str)] (1 + 1) [] gU fun vs zs => vs.headD .non :: pickV [.inl 0, .inr (0, (.int 1))] (fun j => ([V.int 1] : List V).getD j .non) (vs.tail ++ zs)) :=
  ⟨_, fun_of l c, ⟨_, ki1 t rfl (.cons ⟨_, rfl⟩ .nil) fun us ws h1 h2 => match us, ws, h1, h2 with | [a0, a1, a2], [], _, _ => ⟨_, rfl, rfl⟩⟩, ⟨_, ki1 t rfl (.cons ⟨_, rfl⟩ .nil) fun us ws h1 h2 => match us, ws, h1, h2 with | [a0, a1], [], _, _ => ⟨_, rfl, rfl⟩⟩⟩
theorem D__law_like {K : PySem.W.Frag} {f : Addr} {od an : Option Addr} {sl : Array (Option Value)} {oc kV dc pm cd ct : Value} (l : K.lookup f = some ⟨oc, od, .func (PySem.W.fnOf "_law_like" "_law_like" (C8.fnArgs st__law_like) (C8.fnBody st__law_like) (C8.fnScope st__law_like) .none kV dc pm an cd ct), sl⟩) (c : PySem.W.codeIn K cd "_law_like" = true) : ∃ fd, (C8.Fun K "_law_like" "_law_like" st__law_like f fd) ∧ (Binds K fd [("_law_found" : Str), ("_law_due" : Str)] []) :=
  ⟨_, fun_of l c, (fun_of l c).binds rfl fun kV doc pm an cdv ct us hl => match us, hl with | [a0, a1], _ => rfl⟩
theorem D__law_pull {K : PySem.W.Frag} {f : Addr} {od an : Option Addr} {sl : Array (Option Value)} {oc kV dc pm cd ct : Value} (l : K.lookup f = some ⟨oc, od, .func (PySem.W.fnOf "_law_pull" "_law_pull" (C8.fnArgs st__law_pull) (C8.fnBody st__law_pull) (C8.fnScope st__law_pull) .none kV dc pm an cd ct), sl⟩) (c : PySem.W.codeIn K cd "_law_pull" = true) : ∃ fd, (C8.Fun K "_law_pull" "_law_pull" st__law_pull f fd) ∧ (Binds K fd [("_law_bag" : Str), ("_law_many" : Str)] []) :=
  ⟨_, fun_of l c, (fun_of l c).binds rfl fun kV doc pm an cdv ct us hl => match us, hl with | [a0, a1], _ => rfl⟩
theorem D_greatest_factor {K : PySem.W.Frag} {f : Addr} {od an : Option Addr} {sl : Array (Option Value)} {oc kV dc pm cd ct : Value} (l : K.lookup f = some ⟨oc, od, .func (PySem.W.fnOf "greatest_factor" "greatest_factor" (C8.fnArgs st_greatest_factor) (C8.fnBody st_greatest_factor) (C8.fnScope st_greatest_factor) .none kV dc pm an cd ct), sl⟩) (c : PySem.W.codeIn K cd "greatest_factor" = true) : ∃ fd, (C8.Fun K "greatest_factor" "greatest_factor" st_greatest_factor f fd) ∧ (Binds K fd [("one" : Str), ("other" : Str)] []) :=
  ⟨_, fun_of l c, (fun_of l c).binds rfl fun kV doc pm an cdv ct us hl => match us, hl with | [a0, a1], _ => rfl⟩
theorem D_is_number {K : PySem.W.Frag} {f : Addr} {od an : Option Addr} {sl : Array (Option Value)} {oc kV dc pm cd ct : Value} (l : K.lookup f = some ⟨oc, od, .func (PySem.W.fnOf "is_number" "is_number" (C8.fnArgs st_is_number) (C8.fnBody st_is_number) (C8.fnScope st_is_number) .none kV dc pm an cd ct), sl⟩) (c : PySem.W.codeIn K cd "is_number" = true) : ∃ fd, (C8.Fun K "is_number" "is_number" st_is_number f fd) ∧ (Binds K fd [("value" : Str)] []) :=
  ⟨_, fun_of l c, (fun_of l c).binds rfl fun kV doc pm an cdv ct us hl => match us, hl with | [a0], _ => rfl⟩
theorem D_Power___add__ {K : PySem.W.Frag} {f : Addr} {od an : Option Addr} {sl : Array (Option Value)} {oc kV dc pm cd ct : Value} (l : K.lookup f = some ⟨oc, od, .func (PySem.W.fnOf "__add__" "Power.__add__" (C8.fnArgs st_Power___add__) (C8.fnBody st_Power___add__) (C8.fnScope st_Power___add__) .none kV dc pm an cd ct), sl⟩) (c : PySem.W.codeIn K cd "Power.__add__" = true) : ∃ fd, (C8.Fun K "__add__" "Power.__add__" st_Power___add__ f fd) ∧ (Binds K fd [("self" : Str), ("other" : Str)] []) :=
  ⟨_, fun_of l c, (fun_of l c).binds rfl fun kV doc pm an cdv ct us hl => match us, hl with | [a0, a1], _ => rfl⟩
theorem D_Power___radd__ {K : PySem.W.Frag} {f : Addr} {od an : Option Addr} {sl : Array (Option Value)} {oc kV dc pm cd ct : Value} (l : K.lookup f = some ⟨oc, od, .func (PySem.W.fnOf "__radd__" "Power.__radd__" (C8.fnArgs st_Power___radd__) (C8.fnBody st_Power___radd__) (C8.fnScope st_Power___radd__) .none kV dc pm an cd ct), sl⟩) (c : PySem.W.codeIn K cd "Power.__radd__" = true) : ∃ fd, (C8.Fun K "__radd__" "Power.__radd__" st_Power___radd__ f fd) ∧ (Binds K fd [("self" : Str), ("other" : Str)] []) :=
  ⟨_, fun_of l c, (fun_of l c).binds rfl fun kV doc pm an cdv ct us hl => match us, hl with | [a0, a1], _ => rfl⟩
theorem D_Power___mul__ {K : PySem.W.Frag} {f : Addr} {od an : Option Addr} {sl : Array (Option Value)} {oc kV dc pm cd ct : Value} (l : K.lookup f = some ⟨oc, od, .func (PySem.W.fnOf "__mul__" "Power.__mul__" (C8.fnArgs st_Power___mul__) (C8.fnBody st_Power___mul__) (C8.fnScope st_Power___mul__) .none kV dc pm an cd ct), sl⟩) (c : PySem.W.codeIn K cd "Power.__mul__" = true) : ∃ fd, (C8.Fun K "__mul__" "Power.__mul__" st_Power___mul__ f fd) ∧ (Binds K fd [("self" : Str), ("other" : Str)] []) :=
  ⟨_, fun_of l c, (fun_of l c).binds rfl fun kV doc pm an cdv ct us hl => match us, hl with | [a0, a1], _ => rfl⟩
theorem D_Power___rmul__ {K : PySem.W.Frag} {f : Addr} {od an : Option Addr} {sl : Array (Option Value)} {oc kV dc pm cd ct : Value} (l : K.lookup f = some ⟨oc, od, .func (PySem.W.fnOf "__rmul__" "Power.__rmul__" (C8.fnArgs st_Power___rmul__) (C8.fnBody st_Power___rmul__) (C8.fnScope st_Power___rmul__) .none kV dc pm an cd ct), sl⟩) (c : PySem.W.codeIn K cd "Power.__rmul__" = true) : ∃ fd, (C8.Fun K "__rmul__" "Power.__rmul__" st_Power___rmul__ f fd) ∧ (Binds K fd [("self" : Str), ("other" : Str)] []) :=
  ⟨_, fun_of l c, (fun_of l c).binds rfl fun kV doc pm an cdv ct us hl => match us, hl with | [a0, a1], _ => rfl⟩
theorem D_Power___eq__ {K : PySem.W.Frag} {f : Addr} {od an : Option Addr} {sl : Array (Option Value)} {oc kV dc pm cd ct : Value} (l : K.lookup f = some ⟨oc, od, .func (PySem.W.fnOf "__eq__" "Power.__eq__" (C8.fnArgs st_Power___eq__) (C8.fnBody st_Power___eq__) (C8.fnScope st_Power___eq__) .none kV dc pm an cd ct), sl⟩) (c : PySem.W.codeIn K cd "Power.__eq__" = true) : ∃ fd, (C8.Fun K "__eq__" "Power.__eq__" st_Power___eq__ f fd) ∧ (Binds K fd [("self" : Str), ("other" : Str)] []) :=
  ⟨_, fun_of l c, (fun_of l c).binds rfl fun kV doc pm an cdv ct us hl => match us, hl with | [a0, a1], _ => rfl⟩
theorem D_Power___str__ {K : PySem.W.Frag} {f : Addr} {od an : Option Addr} {sl : Array (Option Value)} {oc kV dc pm cd ct : Value} (l : K.lookup f = some ⟨oc, od, .func (PySem.W.fnOf "__str__" "Power.__str__" (C8.fnArgs st_Power___str__) (C8.fnBody st_Power___str__) (C8.fnScope st_Power___str__) .none kV dc pm an cd ct), sl⟩) (c : PySem.W.codeIn K cd "Power.__str__" = true) : ∃ fd, (C8.Fun K "__str__" "Power.__str__" st_Power___str__ f fd) ∧ (Binds K fd [("self" : Str)] []) :=
  ⟨_, fun_of l c, (fun_of l c).binds rfl fun kV doc pm an cdv ct us hl => match us, hl with | [a0], _ => rfl⟩
theorem D_Power_total {K : PySem.W.Frag} {f : Addr} {od an : Option Addr} {sl : Array (Option Value)} {oc kV dc pm cd ct : Value} (l : K.lookup f = some ⟨oc, od, .func (PySem.W.fnOf "total" "Power.total" (C8.fnArgs st_Power_total) (C8.fnBody st_Power_total) (C8.fnScope st_Power_total) .none kV dc pm an cd ct), sl⟩) (c : PySem.W.codeIn K cd "Power.total" = true) : ∃ fd, (C8.Fun K "total" "Power.total" st_Power_total f fd) ∧ (∀ rest : List Value, bindArgs fd ⟨rest, []⟩ = (newTuple rest >>= fun t => pure [(("powers" : Str), t)])) :=
  ⟨_, fun_of l c, fun rest => match rest with | [] => rfl | _ :: _ => rfl⟩
end K
namespace K
open PySem L2 TE
open PySem.W in
theorem all_mk {K : PySem.W.Frag} {h : Heap} {mg : Str → Option Value} (X : K.In h) (G : h.Ns mainGlobals mg) {fa : Addr} (hmg : mg "law" = some (.ref fa)) {C0 : Addr} {f0 : Addr} {od0 an0 : Option Addr} {sl0 : Array (Option Value)} {oc0 kV0 dc0 pm0 cd0 ct0 : Value} {f1 : Addr} {od1 an1 : Option Addr} {sl1 : Array (Option Value)} {oc1 kV1 dc1 pm1 cd1 ct1 : Value} {f2 : Addr} {od2 an2 : Option Addr} {sl2 : Array (Option Value)} {oc2 kV2 dc2 pm2 cd2 ct2 : Value} {f3 : Addr} {od3 an3 : Option Addr} {sl3 : Array (Option Value)} {oc3 kV3 dc3 pm3 cd3 ct3 : Value} {T3 : Addr} {to3 : Value} {td3 : Option Addr} {ts3 : Array (Option Value)} {tn3 : Nat} {tk3_0 : Tok} {f4 : Addr} {od4 an4 : Option Addr} {sl4 : Array (Option Value)} {oc4 kV4 dc4 pm4 cd4 ct4 : Value} {f5 : Addr} {od5 an5 : Option Addr} {sl5 : Array (Option Value)} {oc5 kV5 dc5 pm5 cd5 ct5 : Value} {f6 : Addr} {od6 an6 : Option Addr} {sl6 : Array (Option Value)} {oc6 kV6 dc6 pm6 cd6 ct6 : Value} {f7 : Addr} {od7 an7 : Option Addr} {sl7 : Array (Option Value)} {oc7 kV7 dc7 pm7 cd7 ct7 : Value} {f8 : Addr} {od8 an8 : Option Addr} {sl8 : Array (Option Value)} {oc8 kV8 dc8 pm8 cd8 ct8 : Value} {f9 : Addr} {od9 an9 : Option Addr} {sl9 : Array (Option Value)} {oc9 kV9 dc9 pm9 cd9 ct9 : Value} {f10 : Addr} {od10 an10 : Option Addr} {sl10 : Array (Option Value)} {oc10 kV10 dc10 pm10 cd10 ct10 : Value} {f11 : Addr} {od11 an11 : Option Addr} {sl11 : Array (Option Value)} {oc11 kV11 dc11 pm11 cd11 ct11 : Value} {f12 : Addr} {od12 an12 : Option Addr} {sl12 : Array (Option Value)} {oc12 kV12 dc12 pm12 cd12 ct12 : Value} {f13 : Addr} {od13 an13 : Option Addr} {sl13 : Array (Option Value)} {oc13 kV13 dc13 pm13 cd13 ct13 : Value} {f14 : Addr} {od14 an14 : Option Addr} {sl14 : Array (Option Value)} {oc14 kV14 dc14 pm14 cd14 ct14 : Value} {sp14 : Addr} {sr14 : List Value} (aC0 : PySem.W.nsIn K mainGlobals "Power" = some (some (.ref C0))) (a0 : PySem.W.nsIn K mainGlobals "law" = some (some (.ref f0))) (l0 : K.lookup f0 = some ⟨oc0, od0, .func (PySem.W.fnOf "law" "law" (C8.fnArgs st_law) (C8.fnBody st_law) (C8.fnScope st_law) .none kV0 dc0 pm0 an0 cd0 ct0), sl0⟩) (c0 : PySem.W.codeIn K cd0 "law" = true) (k0 : PySem.W.keepIn K (.ref f0) = true) (a1 : PySem.W.nsIn K mainGlobals "_law_draws" = some (some (.ref f1))) (l1 : K.lookup f1 = some ⟨oc1, od1, .func (PySem.W.fnOf "_law_draws" "_law_draws" (C8.fnArgs st__law_draws) (C8.fnBody st__law_draws) (C8.fnScope st__law_draws) .none kV1 dc1 pm1 an1 cd1 ct1), sl1⟩) (c1 : PySem.W.codeIn K cd1 "_law_draws" = true) (k1 : PySem.W.keepIn K (.ref f1) = true) (a2 : PySem.W.nsIn K mainGlobals "_law_any" = some (some (.ref f2))) (l2 : K.lookup f2 = some ⟨oc2, od2, .func (PySem.W.fnOf "_law_any" "_law_any" (C8.fnArgs st__law_any) (C8.fnBody st__law_any) (C8.fnScope st__law_any) .none kV2 dc2 pm2 an2 cd2 ct2), sl2⟩) (c2 : PySem.W.codeIn K cd2 "_law_any" = true) (k2 : PySem.W.keepIn K (.ref f2) = true) (a3 : PySem.W.findIn K (.ref C0) "__init__" = some (some (.ref f3))) (i3 : PySem.W.isFn K (.ref f3) = true) (l3 : K.lookup f3 = some ⟨oc3, od3, .func (PySem.W.fnOf "__init__" "Power.__init__" (C8.fnArgs st_Power___init__) (C8.fnBody st_Power___init__) (C8.fnScope st_Power___init__) (.ref T3) kV3 dc3 pm3 an3 cd3 ct3), sl3⟩) (t3 : K.lookup T3 = some ⟨to3, td3, .seq (List.toArray [Value.int 1 tk3_0]) tn3, ts3⟩) (c3 : PySem.W.codeIn K cd3 "Power.__init__" = true) (k3 : PySem.W.keepIn K (.ref f3) = true) (a4 : PySem.W.nsIn K mainGlobals "_law_like" = some (some (.ref f4))) (l4 : K.lookup f4 = some ⟨oc4, od4, .func (PySem.W.fnOf "_law_like" "_law_like" (C8.fnArgs st__law_like) (C8.fnBody st__law_like) (C8.fnScope st__law_like) .none kV4 dc4 pm4 an4 cd4 ct4), sl4⟩) (c4 : PySem.W.codeIn K cd4 "_law_like" = true) (k4 : PySem.W.keepIn K (.ref f4) = true) (a5 : PySem.W.nsIn K mainGlobals "_law_pull" = some (some (.ref f5))) (l5 : K.lookup f5 = some ⟨oc5, od5, .func (PySem.W.fnOf "_law_pull" "_law_pull" (C8.fnArgs st__law_pull) (C8.fnBody st__law_pull) (C8.fnScope st__law_pull) .none kV5 dc5 pm5 an5 cd5 ct5), sl5⟩) (c5 : PySem.W.codeIn K cd5 "_law_pull" = true) (k5 : PySem.W.keepIn K (.ref f5) = true) (a6 : PySem.W.nsIn K mainGlobals "greatest_factor" = some (some (.ref f6))) (l6 : K.lookup f6 = some ⟨oc6, od6, .func (PySem.W.fnOf "greatest_factor" "greatest_factor" (C8.fnArgs st_greatest_factor) (C8.fnBody st_greatest_factor) (C8.fnScope st_greatest_factor) .none kV6 dc6 pm6 an6 cd6 ct6), sl6⟩) (c6 : PySem.W.codeIn K cd6 "greatest_factor" = true) (k6 : PySem.W.keepIn K (.ref f6) = true) (a7 : PySem.W.nsIn K mainGlobals "is_number" = some (some (.ref f7))) (l7 : K.lookup f7 = some ⟨oc7, od7, .func (PySem.W.fnOf "is_number" "is_number" (C8.fnArgs st_is_number) (C8.fnBody st_is_number) (C8.fnScope st_is_number) .none kV7 dc7 pm7 an7 cd7 ct7), sl7⟩) (c7 : PySem.W.codeIn K cd7 "is_number" = true) (k7 : PySem.W.keepIn K (.ref f7) = true) (a8 : PySem.W.findIn K (.ref C0) "__add__" = some (some (.ref f8))) (i8 : PySem.W.isFn K (.ref f8) = true) (l8 : K.lookup f8 = some ⟨oc8, od8, .func (PySem.W.fnOf "__add__" "Power.__add__" (C8.fnArgs st_Power___add__) (C8.fnBody st_Power___add__) (C8.fnScope st_Power___add__) .none kV8 dc8 pm8 an8 cd8 ct8), sl8⟩) (c8 : PySem.W.codeIn K cd8 "Power.__add__" = true) (k8 : PySem.W.keepIn K (.ref f8) = true) (a9 : PySem.W.findIn K (.ref C0) "__radd__" = some (some (.ref f9))) (i9 : PySem.W.isFn K (.ref f9) = true) (l9 : K.lookup f9 = some ⟨oc9, od9, .func (PySem.W.fnOf "__radd__" "Power.__radd__" (C8.fnArgs st_Power___radd__) (C8.fnBody st_Power___radd__) (C8.fnScope st_Power___radd__) .none kV9 dc9 pm9 an9 cd9 ct9), sl9⟩) (c9 : PySem.W.codeIn K cd9 "Power.__radd__" = true) (k9 : PySem.W.keepIn K (.ref f9) = true) (a10 : PySem.W.findIn K (.ref C0) "__mul__" = some (some (.ref f10))) (i10 : PySem.W.isFn K (.ref f10) = true) (l10 : K.lookup f10 = some ⟨oc10, od10, .func (PySem.W.fnOf "__mul__" "Power.__mul__" (C8.fnArgs st_Power___mul__) (C8.fnBody st_Power___mul__) (C8.fnScope st_Power___mul__) .none kV10 dc10 pm10 an10 cd10 ct10), sl10⟩) (c10 : PySem.W.codeIn K cd10 "Power.__mul__" = true) (k10 : PySem.W.keepIn K (.ref f10) = true) (a11 : PySem.W.findIn K (.ref C0) "__rmul__" = some (some (.ref f11))) (i11 : PySem.W.isFn K (.ref f11) = true) (l11 : K.lookup f11 = some ⟨oc11, od11, .func (PySem.W.fnOf "__rmul__" "Power.__rmul__" (C8.fnArgs st_Power___rmul__) (C8.fnBody st_Power___rmul__) (C8.fnScope st_Power___rmul__) .none kV11 dc11 pm11 an11 cd11 ct11), sl11⟩) (c11 : PySem.W.codeIn K cd11 "Power.__rmul__" = true) (k11 : PySem.W.keepIn K (.ref f11) = true) (a12 : PySem.W.findIn K (.ref C0) "__eq__" = some (some (.ref f12))) (i12 : PySem.W.isFn K (.ref f12) = true) (l12 : K.lookup f12 = some ⟨oc12, od12, .func (PySem.W.fnOf "__eq__" "Power.__eq__" (C8.fnArgs st_Power___eq__) (C8.fnBody st_Power___eq__) (C8.fnScope st_Power___eq__) .none kV12 dc12 pm12 an12 cd12 ct12), sl12⟩) (c12 : PySem.W.codeIn K cd12 "Power.__eq__" = true) (k12 : PySem.W.keepIn K (.ref f12) = true) (a13 : PySem.W.findIn K (.ref C0) "__str__" = some (some (.ref f13))) (i13 : PySem.W.isFn K (.ref f13) = true) (l13 : K.lookup f13 = some ⟨oc13, od13, .func (PySem.W.fnOf "__str__" "Power.__str__" (C8.fnArgs st_Power___str__) (C8.fnBody st_Power___str__) (C8.fnScope st_Power___str__) .none kV13 dc13 pm13 an13 cd13 ct13), sl13⟩) (c13 : PySem.W.codeIn K cd13 "Power.__str__" = true) (k13 : PySem.W.keepIn K (.ref f13) = true) (a14 : PySem.W.findCls K (.ref C0) (.type "type") "total" = some (.get (.builtin "staticmethod.__get__") (.ref sp14) .none (.ref C0))) (i14 : PySem.W.recIn K sp14 "staticmethod" = some (.ref f14 :: sr14)) (l14 : K.lookup f14 = some ⟨oc14, od14, .func (PySem.W.fnOf "total" "Power.total" (C8.fnArgs st_Power_total) (C8.fnBody st_Power_total) (C8.fnScope st_Power_total) .none kV14 dc14 pm14 an14 cd14 ct14), sl14⟩) (c14 : PySem.W.codeIn K cd14 "Power.total" = true) (k14 : PySem.W.keepIn K (.ref f14) = true) (pg0 : PySem.W.plainGet K C0 Str.empty = true) (hd0 : PySem.W.hasDictIn K C0 = true) (po0 : PySem.W.plainOver K C0 = true) (sa0 : PySem.W.findIn K (.ref C0) "__setattr__" = some (some (.builtin "object.__setattr__"))) (ha0 : PySem.W.findIn K (.ref C0) "__class__" = some (some (.builtin "object.__class__"))) (hm0 : PySem.W.mroIn K C0 (.type "object") = some true) (ty0 : PySem.W.typeIn K (.ref C0) = some (.type "type")) (me0 : PySem.W.mroIn K C0 (.ref C0) = some true) (m1_0 : PySem.W.mroIn K C0 (.type "int") = some false) (m2_0 : PySem.W.mroIn K C0 (.type "bool") = some false) (m3_0 : PySem.W.mroIn K C0 (.type "str") = some false) (m4_0 : PySem.W.mroIn K C0 (.type "list") = some false) (m5_0 : PySem.W.mroIn K C0 (.type "tuple") = some false) (m6_0 : PySem.W.mroIn K C0 (.type "dict") = some false) (m7_0 : PySem.W.mroIn K C0 (.type "NoneType") = some false) (mk0 : PySem.W.makesIn K C0 = true) (kc0 : PySem.W.keepIn K (.ref C0) = true) (sf0 : PySem.W.selfFirst K C0 = true) (ne0 : PySem.W.findIn K (.ref C0) "__ne__" = some (some (.builtin "object.__ne__"))) (rd0 : PySem.W.readsIn K C0 (.type "type") = true) (ga0 : PySem.W.specialIn K (.ref C0) "__getattribute__" = some (some (.builtin "type.__getattribute__"))) (n0_top : PySem.W.findIn K (.ref C0) "top" = some none) (n0_bottom : PySem.W.findIn K (.ref C0) "bottom" = some none) (hn : PySem.W.specialIn K (.builtin "object.__class__") "__get__" = some (some (.builtin "getset_descriptor.__get__"))) (htk : PySem.W.takesIn K (.builtin "object.__class__") = some true) (ia1 : PySem.W.findIn K (.type "int") "__add__" = some (some (.builtin "int.__add__"))) (ia2 : PySem.W.findIn K (.type "int") "__radd__" = some (some (.builtin "int.__radd__"))) (im1 : PySem.W.findIn K (.type "int") "__mul__" = some (some (.builtin "int.__mul__"))) (im2 : PySem.W.findIn K (.type "int") "__rmul__" = some (some (.builtin "int.__rmul__"))) (z0 : PySem.W.nsIn K mainGlobals "all" = some none) (z1 : PySem.W.nsIn K mainGlobals "any" = some none) (z2 : PySem.W.nsIn K mainGlobals "bool" = some none) (z3 : PySem.W.nsIn K mainGlobals "dict" = some none) (z4 : PySem.W.nsIn K mainGlobals "enumerate" = some none) (z5 : PySem.W.nsIn K mainGlobals "int" = some none) (z6 : PySem.W.nsIn K mainGlobals "isinstance" = some none) (z7 : PySem.W.nsIn K mainGlobals "len" = some none) (z8 : PySem.W.nsIn K mainGlobals "list" = some none) (z9 : PySem.W.nsIn K mainGlobals "max" = some none) (z10 : PySem.W.nsIn K mainGlobals "min" = some none) (z11 : PySem.W.nsIn K mainGlobals "range" = some none) (z12 : PySem.W.nsIn K mainGlobals "str" = some none) (z13 : PySem.W.nsIn K mainGlobals "sum" = some none) (z14 : PySem.W.nsIn K mainGlobals "tuple" = some none) (z15 : PySem.W.nsIn K mainGlobals "zip" = some none) (P : Program) (w : World) :
    ∃ fd : FuncData, (∀ (s : Shared) (u : Value), BindsTo s fd ⟨[u], []⟩ [("_law_script", u)]) ∧ ∀ (base : Heap), K.In base → base.Ns mainGlobals mg → FnOk P w K mg base C8.CX0 (3 * 40) fa fd ["_law_script"] (spLaw K) := by
  obtain ⟨fd0, F0, b0, bl⟩ := D_law l0 c0
  obtain ⟨fd1, F1, b1⟩ := D__law_draws l1 c1
  obtain ⟨fd2, F2, b2⟩ := D__law_any l2 c2
  obtain ⟨fd3, F3, s0, s1⟩ := D_Power___init__ l3 c3 t3
  obtain ⟨fd4, F4, b4⟩ := D__law_like l4 c4
  obtain ⟨fd5, F5, b5⟩ := D__law_pull l5 c5
  obtain ⟨fd6, F6, b6⟩ := D_greatest_factor l6 c6
  obtain ⟨fd7, F7, b7⟩ := D_is_number l7 c7
  obtain ⟨fd8, F8, b8⟩ := D_Power___add__ l8 c8
  obtain ⟨fd9, F9, b9⟩ := D_Power___radd__ l9 c9
  obtain ⟨fd10, F10, b10⟩ := D_Power___mul__ l10 c10
  obtain ⟨fd11, F11, b11⟩ := D_Power___rmul__ l11 c11
  obtain ⟨fd12, F12, b12⟩ := D_Power___eq__ l12 c12
  obtain ⟨fd13, F13, b13⟩ := D_Power___str__ l13 c13
  obtain ⟨fd14, F14, bs14⟩ := D_Power_total l14 c14
  have e0 : fa = f0 := by
    have z := mg_of X G a0
    rw [hmg] at z
    cases z; rfl
  subst e0
  let g : TE.G := ⟨K, fun C => [C0].getD C 0, fun C => pg.flds.getD C []⟩
  let q : TE.Q9 := ⟨fun i => [fa, f1, f2, f3, f4, f5, f6, f7, f8, f9, f10, f11, f12, f13, f14].getD i 0, fun i => [fd0, fd1, fd2, fd3, fd4, fd5, fd6, fd7, fd8, fd9, fd10, fd11, fd12, fd13, fd14].getD i fd0, fun i => ([[("_law_script" : Str)], [("_law_script" : Str)], [("_law_bag" : Str), ("_law_things" : Str)], [("self" : Str), ("top" : Str), ("bottom" : Str)], [("_law_found" : Str), ("_law_due" : Str)], [("_law_bag" : Str), ("_law_many" : Str)], [("one" : Str), ("other" : Str)], [("value" : Str)], [("self" : Str), ("other" : Str)], [("self" : Str), ("other" : Str)], [("self" : Str), ("other" : Str)], [("self" : Str), ("other" : Str)], [("self" : Str), ("other" : Str)], [("self" : Str)], [("powers" : Str)]] : List (List Str)).getD i [], fun i => ([(fun _ => V.non), (fun _ => V.non), (fun _ => V.non), (fun j => ([V.int 1] : List V).getD j .non), (fun _ => V.non), (fun _ => V.non), (fun _ => V.non), (fun _ => V.non), (fun _ => V.non), (fun _ => V.non), (fun _ => V.non), (fun _ => V.non), (fun _ => V.non), (fun _ => V.non), (fun _ => V.non)] : List (Nat → V)).getD i (fun _ => V.non)⟩
  have gs : Gs T pg g q K mg := by
    refine ⟨fun f d hd hp => ?bd, fun x f hx => ?nm, fun x C hx => ?cn, fun x hx => ?off, ?ow, rfl, fun _ => rfl, fun C hC => ?fc, fun C f hC hf => ?na, fun s h hs he => ?kb, fun s h C hs hC hn => ?ki, fun s h j d hs hm => ?dv, fun C f hC hf => ?mkc, fun C m f hm => ?mt, fun C m f hm => ?oc, fun C m f hm => ?st⟩
    case bd =>
      match f, hd, hp with
      | 0, _, _ => exact b0
      | 1, _, _ => exact b1
      | 2, _, _ => exact b2
      | 3, _, hp => exact absurd hp (by decide)
      | 4, _, _ => exact b4
      | 5, _, _ => exact b5
      | 6, _, _ => exact b6
      | 7, _, _ => exact b7
      | 8, _, hp => exact absurd hp (by decide)
      | 9, _, hp => exact absurd hp (by decide)
      | 10, _, hp => exact absurd hp (by decide)
      | 11, _, hp => exact absurd hp (by decide)
      | 12, _, hp => exact absurd hp (by decide)
      | 13, _, hp => exact absurd hp (by decide)
      | 14, _, hp => exact absurd hp (by decide)
      | _ + 15, hd, _ => cases hd
    case nm =>
      exact lk_all (P := fun x f => mg x = some (.ref (q.fa f)) ∧ PySem.W.keepIn K (.ref (q.fa f)) = true) (all_cons (a := (("law" : Str), 0)) ⟨mg_of X G a0, k0⟩ (all_cons (a := (("_law_draws" : Str), 1)) ⟨mg_of X G a1, k1⟩ (all_cons (a := (("_law_any" : Str), 2)) ⟨mg_of X G a2, k2⟩ (all_cons (a := (("_law_like" : Str), 4)) ⟨mg_of X G a4, k4⟩ (all_cons (a := (("_law_pull" : Str), 5)) ⟨mg_of X G a5, k5⟩ (all_cons (a := (("greatest_factor" : Str), 6)) ⟨mg_of X G a6, k6⟩ (all_cons (a := (("is_number" : Str), 7)) ⟨mg_of X G a7, k7⟩ all_nil))))))) hx
    case cn =>
      exact lk_all (P := fun x C => mg x = some (.ref (g.ca C))) (all_cons (a := (("Power" : Str), 0)) (mg_of X G aC0) all_nil) hx
    case off =>
      exact ct_all (P := fun x => mg x = none) (all_cons (a := ("all" : Str)) (mg_none_of X G z0) (all_cons (a := ("any" : Str)) (mg_none_of X G z1) (all_cons (a := ("bool" : Str)) (mg_none_of X G z2) (all_cons (a := ("dict" : Str)) (mg_none_of X G z3) (all_cons (a := ("enumerate" : Str)) (mg_none_of X G z4) (all_cons (a := ("int" : Str)) (mg_none_of X G z5) (all_cons (a := ("isinstance" : Str)) (mg_none_of X G z6) (all_cons (a := ("len" : Str)) (mg_none_of X G z7) (all_cons (a := ("list" : Str)) (mg_none_of X G z8) (all_cons (a := ("max" : Str)) (mg_none_of X G z9) (all_cons (a := ("min" : Str)) (mg_none_of X G z10) (all_cons (a := ("range" : Str)) (mg_none_of X G z11) (all_cons (a := ("str" : Str)) (mg_none_of X G z12) (all_cons (a := ("sum" : Str)) (mg_none_of X G z13) (all_cons (a := ("tuple" : Str)) (mg_none_of X G z14) (all_cons (a := ("zip" : Str)) (mg_none_of X G z15) all_nil)))))))))))))))) hx
    case ow =>
      refine own_all (g := g) hn htk (fun C hC => ?_) fun C C' hC hC' hne => ?_
      · match C, hC with
        | 0, _ => exact ⟨pg0, hd0, po0, sa0, ha0, hm0, ty0, me0, m1_0, m2_0, m3_0, m4_0, m5_0, m6_0, m7_0⟩
        | n + 1, h => exact absurd h (Nat.not_lt.mpr (Nat.le_add_left _ _))
      · match C, C', hC, hC', hne with
        | 0, 0, _, _, h => exact absurd rfl h
        | n + 1, _, h, _, _ => exact absurd h (Nat.not_lt.mpr (Nat.le_add_left _ _))
        | _, n + 1, _, h, _ => exact absurd h (Nat.not_lt.mpr (Nat.le_add_left _ _))
    case fc =>
      match C, hC with
      | 0, _ => exact by decide
      | _ + 1, h => exact absurd rfl h
    case na =>
      match C, hC, hf with
      | 0, _, hf => exact ((all_cons (a := ("top" : Str)) n0_top (all_cons (a := ("bottom" : Str)) n0_bottom all_nil)) : ∀ p ∈ pg.flds.getD 0 [], NoAttr K C0 p) f hf
      | _ + 1, h, _ => exact absurd h (Nat.not_lt.mpr (Nat.le_add_left _ _))
    case kb =>
      match s, hs, he with
      | 0, hs, he => cases hs; obtain ⟨x, hx⟩ := he; exact absurd rfl (lk_all (P := fun _ f => f ≠ 3) (by decide) hx)
      | 1, hs, he => cases hs; obtain ⟨x, hx⟩ := he; exact absurd rfl (lk_all (P := fun _ f => f ≠ 3) (by decide) hx)
      | _ + 2, hs, _ => cases hs
    case ki =>
      match s, C, hs, hC, hn with
      | 0, 0, hs, _, _ => cases hs; exact s0
      | 0, _ + 1, _, _, h => exact absurd h (Nat.not_lt.mpr (Nat.le_add_left _ _))
      | 1, 0, hs, _, _ => cases hs; exact s1
      | 1, _ + 1, _, _, h => exact absurd h (Nat.not_lt.mpr (Nat.le_add_left _ _))
      | _ + 2, _, hs, _, _ => cases hs
    case dv =>
      match s, hs, hm with
      | 0, hs, hm => cases hs; (rcases List.mem_cons.mp hm with e | hm; · cases e); (rcases List.mem_cons.mp hm with e | hm; · cases e); cases hm
      | 1, hs, hm => cases hs; (rcases List.mem_cons.mp hm with e | hm; · cases e); (rcases List.mem_cons.mp hm with e | hm; · cases e; exact fun F H => .int _); cases hm
      | _ + 2, hs, _ => cases hs
    case mkc =>
      match C, hC, hf with
      | 0, _, hf => cases hf; exact ⟨mk0, a3, i3, kc0⟩
      | _ + 1, h, _ => exact absurd h (Nat.not_lt.mpr (Nat.le_add_left _ _))
    case mt =>
      match C, hm with
      | 0, hm => exact lk_all (P := fun m f => OwT K (g.ca 0) m (q.fa f) (q.fd f) (q.fp f) ∧ 0 < T.nC ∧ ∃ d0, pg.defs[f]? = some d0 ∧ ∀ k ∈ d0.fi.kd, k = .n) (all_cons (a := (("__add__" : Str), 8)) ⟨⟨a8, i8, b8⟩, by decide, _, rfl, (by decide : ∀ k ∈ df_Power___add__.fi.kd, k = .n)⟩ (all_cons (a := (("__radd__" : Str), 9)) ⟨⟨a9, i9, b9⟩, by decide, _, rfl, (by decide : ∀ k ∈ df_Power___radd__.fi.kd, k = .n)⟩ (all_cons (a := (("__mul__" : Str), 10)) ⟨⟨a10, i10, b10⟩, by decide, _, rfl, (by decide : ∀ k ∈ df_Power___mul__.fi.kd, k = .n)⟩ (all_cons (a := (("__rmul__" : Str), 11)) ⟨⟨a11, i11, b11⟩, by decide, _, rfl, (by decide : ∀ k ∈ df_Power___rmul__.fi.kd, k = .n)⟩ (all_cons (a := (("__eq__" : Str), 12)) ⟨⟨a12, i12, b12⟩, by decide, _, rfl, (by decide : ∀ k ∈ df_Power___eq__.fi.kd, k = .n)⟩ (all_cons (a := (("__str__" : Str), 13)) ⟨⟨a13, i13, b13⟩, by decide, _, rfl, (by decide : ∀ k ∈ df_Power___str__.fi.kd, k = .n)⟩ all_nil)))))) hm
      | _ + 1, hm => cases hm
    case oc =>
      match C, hm with
      | 0, hm => exact lk_all (P := fun m f => OcF K (g.ca 0) ∧ FiF K) (all_cons (a := (("__add__" : Str), 8)) ⟨⟨sf0, ne0, hm0, m1_0, cls_some hm0⟩, ⟨ia1, ia2, im1, im2⟩⟩ (all_cons (a := (("__radd__" : Str), 9)) ⟨⟨sf0, ne0, hm0, m1_0, cls_some hm0⟩, ⟨ia1, ia2, im1, im2⟩⟩ (all_cons (a := (("__mul__" : Str), 10)) ⟨⟨sf0, ne0, hm0, m1_0, cls_some hm0⟩, ⟨ia1, ia2, im1, im2⟩⟩ (all_cons (a := (("__rmul__" : Str), 11)) ⟨⟨sf0, ne0, hm0, m1_0, cls_some hm0⟩, ⟨ia1, ia2, im1, im2⟩⟩ (all_cons (a := (("__eq__" : Str), 12)) ⟨⟨sf0, ne0, hm0, m1_0, cls_some hm0⟩, ⟨ia1, ia2, im1, im2⟩⟩ (all_cons (a := (("__str__" : Str), 13)) ⟨⟨sf0, ne0, hm0, m1_0, cls_some hm0⟩, ⟨ia1, ia2, im1, im2⟩⟩ all_nil)))))) hm
      | _ + 1, hm => cases hm
    case st =>
      match C, hm with
      | 0, hm => exact lk_all (P := fun m f => StF K (g.ca 0) m (q.fa f) ∧ ∃ d0 pv, pg.defs[f]? = some d0 ∧ (∀ k ∈ d0.fi.kd, k = .n) ∧ q.fp f = [pv] ∧ ∀ rest : List Value, bindArgs (q.fd f) ⟨rest, []⟩ = (newTuple rest >>= fun t => pure [(pv, t)])) (all_cons (a := (("total" : Str), 14)) ⟨⟨ty0, rd0, ga0, ⟨_, _, a14, i14⟩, k14⟩, _, "powers", rfl, (by decide : ∀ k ∈ df_Power_total.fi.kd, k = .n), rfl, bs14⟩ all_nil) hm
      | _ + 1, hm => cases hm
  have hD : ∀ f d, pg.defs[f]? = some d → ∃ x qual st N, C8.Fun K x qual st (q.fa f) (q.fd f) ∧ chkD T pg d N (q.fp f) st = true := fun f d hd => by
    match f, hd with
    | 0, hd => cases hd; exact ⟨_, _, _, _, F0, ck_law⟩
    | 1, hd => cases hd; exact ⟨_, _, _, _, F1, ck__law_draws⟩
    | 2, hd => cases hd; exact ⟨_, _, _, _, F2, ck__law_any⟩
    | 3, hd => cases hd; exact ⟨_, _, _, _, F3, ck_Power___init__⟩
    | 4, hd => cases hd; exact ⟨_, _, _, _, F4, ck__law_like⟩
    | 5, hd => cases hd; exact ⟨_, _, _, _, F5, ck__law_pull⟩
    | 6, hd => cases hd; exact ⟨_, _, _, _, F6, ck_greatest_factor⟩
    | 7, hd => cases hd; exact ⟨_, _, _, _, F7, ck_is_number⟩
    | 8, hd => cases hd; exact ⟨_, _, _, _, F8, ck_Power___add__⟩
    | 9, hd => cases hd; exact ⟨_, _, _, _, F9, ck_Power___radd__⟩
    | 10, hd => cases hd; exact ⟨_, _, _, _, F10, ck_Power___mul__⟩
    | 11, hd => cases hd; exact ⟨_, _, _, _, F11, ck_Power___rmul__⟩
    | 12, hd => cases hd; exact ⟨_, _, _, _, F12, ck_Power___eq__⟩
    | 13, hd => cases hd; exact ⟨_, _, _, _, F13, ck_Power___str__⟩
    | 14, hd => cases hd; exact ⟨_, _, _, _, F14, ck_Power_total⟩
    | _ + 15, hd => cases hd
  exact ⟨fd0, bl, fun base _ _ => law_ok (KK := 10000000000000000000000000000000000000000) (n := 40) (q := q) gs hD rfl rfl rfl plain⟩
end K
open PySem PySem.W PyProof.Rows
set_option maxRecDepth 100000 in
set_option maxHeartbeats 0 in
theorem PySem.Challenge.cw_waysbelow_k04_powers_added_and_multiplie_holds : PySem.Challenge.rw_waysbelow_k04_powers_added_and_multiplie.Holds := by
  w_on; o_law; k_head; (case hw => w_witness2)
  k_fill
  refine TE.law_walk (l := PySem.Challenge.rw_waysbelow_k04_powers_added_and_multiplie) (k := 3 * 40) (x := "_law_script") rfl rfl ⟨rfl, by decide, by decide⟩ (fun w h Y => PySem.W.kIn_of Y) ?F
  case F =>
    intro w mg fa h KX G hmg
    refine' K.all_mk KX G hmg ?aC0 ?a0 ?l0 ?c0 ?k0 ?a1 ?l1 ?c1 ?k1 ?a2 ?l2 ?c2 ?k2 ?a3 ?i3 ?l3 ?t3 ?c3 ?k3 ?a4 ?l4 ?c4 ?k4 ?a5 ?l5 ?c5 ?k5 ?a6 ?l6 ?c6 ?k6 ?a7 ?l7 ?c7 ?k7 ?a8 ?i8 ?l8 ?c8 ?k8 ?a9 ?i9 ?l9 ?c9 ?k9 ?a10 ?i10 ?l10 ?c10 ?k10 ?a11 ?i11 ?l11 ?c11 ?k11 ?a12 ?i12 ?l12 ?c12 ?k12 ?a13 ?i13 ?l13 ?c13 ?k13 ?a14 ?i14 ?l14 ?c14 ?k14 ?pg0 ?hd0 ?po0 ?sa0 ?ha0 ?hm0 ?ty0 ?me0 ?m1_0 ?m2_0 ?m3_0 ?m4_0 ?m5_0 ?m6_0 ?m7_0 ?mk0 ?kc0 ?sf0 ?ne0 ?rd0 ?ga0 ?n0_top ?n0_bottom ?hn ?htk ?ia1 ?ia2 ?im1 ?im2 ?z0 ?z1 ?z2 ?z3 ?z4 ?z5 ?z6 ?z7 ?z8 ?z9 ?z10 ?z11 ?z12 ?z13 ?z14 ?z15 _ _
    (case aC0 => k_is)
    (case a0 => k_is)
    (case l0 => k_is)
    (case c0 => k_is)
    (case k0 => k_is)
    (case a1 => k_is)
    (case l1 => k_is)
    (case c1 => k_is)
    (case k1 => k_is)
    (case a2 => k_is)
    (case l2 => k_is)
    (case c2 => k_is)
    (case k2 => k_is)
    (case a3 => k_is)
    (case i3 => k_is)
    (case l3 => k_is)
    (case t3 => k_is)
    (case c3 => k_is)
    (case k3 => k_is)
    (case a4 => k_is)
    (case l4 => k_is)
    (case c4 => k_is)
    (case k4 => k_is)
    (case a5 => k_is)
    (case l5 => k_is)
    (case c5 => k_is)
    (case k5 => k_is)
    (case a6 => k_is)
    (case l6 => k_is)
    (case c6 => k_is)
    (case k6 => k_is)
    (case a7 => k_is)
    (case l7 => k_is)
    (case c7 => k_is)
    (case k7 => k_is)
    (case a8 => k_is)
    (case i8 => k_is)
    (case l8 => k_is)
    (case c8 => k_is)
    (case k8 => k_is)
    (case a9 => k_is)
    (case i9 => k_is)
    (case l9 => k_is)
    (case c9 => k_is)
    (case k9 => k_is)
    (case a10 => k_is)
    (case i10 => k_is)
    (case l10 => k_is)
    (case c10 => k_is)
    (case k10 => k_is)
    (case a11 => k_is)
    (case i11 => k_is)
    (case l11 => k_is)
    (case c11 => k_is)
    (case k11 => k_is)
    (case a12 => k_is)
    (case i12 => k_is)
    (case l12 => k_is)
    (case c12 => k_is)
    (case k12 => k_is)
    (case a13 => k_is)
    (case i13 => k_is)
    (case l13 => k_is)
    (case c13 => k_is)
    (case k13 => k_is)
    (case a14 => k_is)
    (case i14 => k_is)
    (case l14 => k_is)
    (case c14 => k_is)
    (case k14 => k_is)
    (case pg0 => k_is)
    (case hd0 => k_is)
    (case po0 => k_is)
    (case sa0 => k_is)
    (case ha0 => k_is)
    (case hm0 => k_is)
    (case ty0 => k_is)
    (case me0 => k_is)
    (case m1_0 => k_is)
    (case m2_0 => k_is)
    (case m3_0 => k_is)
    (case m4_0 => k_is)
    (case m5_0 => k_is)
    (case m6_0 => k_is)
    (case m7_0 => k_is)
    (case mk0 => k_is)
    (case kc0 => k_is)
    (case sf0 => k_is)
    (case ne0 => k_is)
    (case rd0 => k_is)
    (case ga0 => k_is)
    (case n0_top => k_is)
    (case n0_bottom => k_is)
    (case hn => k_is)
    (case htk => k_is)
    (case ia1 => k_is)
    (case ia2 => k_is)
    (case im1 => k_is)
    (case im2 => k_is)
    (case z0 => k_is)
    (case z1 => k_is)
    (case z2 => k_is)
    (case z3 => k_is)
    (case z4 => k_is)
    (case z5 => k_is)
    (case z6 => k_is)
    (case z7 => k_is)
    (case z8 => k_is)
    (case z9 => k_is)
    (case z10 => k_is)
    (case z11 => k_is)
    (case z12 => k_is)
    (case z13 => k_is)
    (case z14 => k_is)
    (case z15 => k_is)
