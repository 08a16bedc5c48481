import PyProof.Rows.All
import HandS.ForMost
import HandS.IsInst
import HandS.TupAny
import HandS.TupMul
import HandS.Wide
import HandS.WideMore
import HandS.Conv
import HandS.SortInts
import HandS.Deep
import HandS.DictTup
import HandS.DictComp
import HandS.StrMore
import HandS.Flow
import HandS.Style
import HandS.Small
import HandS.Defaults
import HandS.AnyAll
import HandS.TupLe
import KE.KDictPairs
import KE.KDictOf
import PyProof.GenQ
import HandS.GenList
import KE.GoesEnumKw
import KE.KTurns
import HandS.Zip0
import HandS.Zip
import HandS.Ends
import HandS.HeadHook4
import HandS.Head0
import HandS.Head1
import HandS.Head2
import HandS.HeadEnd
import HandS.HeadHook1
import HandS.HeadHook2
import HandS.HeadHook3
import PySem.Challenge.RW_roundties_k01_sheets_of_any_value
set_option Elab.async false
set_option linter.all false
set_option maxRecDepth 100000
set_option maxHeartbeats 0
section
/-! Mi: a small interpreter over data, and that it tells the truth of the model. Part 0: syntax, data, what it does. -/
namespace Mi
open PySem

/-! ### data -/
/-- built-in types by name -/
inductive Bt where
  | tint | tbool | tstr | ttuple | tlist | tdict
  deriving DecidableEq
def Bt.name : Bt → String
  | .tint => "int"
  | .tbool => "bool"
  | .tstr => "str"
  | .ttuple => "tuple"
  | .tlist => "list"
  | .tdict => "dict"
/-- data: `lst`, `dct` are lists and dicts that nobody changes; `loc i`: the i-th changing object of the store; `ref`: an object of the written part (a def, a class) -/
inductive D where
  | non | bl (b : Bool) | int (i : Int) | str (x : Str)
  | tup (xs : List D) | lst (xs : List D) | dct (ks vs : List D) | scr (ns : List Int)
  | loc (i : Nat) | ref (a : Addr) | ty (t : Bt)
/-- what stands in the store -/
inductive O where
  | lst (xs : List D) | dct (ks vs : List D) | tab
abbrev Store := List O
abbrev Sg := List (Option D)

mutual
/-- every place in it is below c -/
def clo (c : Nat) : D → Bool
  | .tup xs => cloL c xs
  | .lst xs => cloL c xs
  | .dct ks vs => cloL c ks && cloL c vs
  | .loc i => decide (i < c)
  | .non => true
  | .bl _ => true
  | .int _ => true
  | .str _ => true
  | .ref _ => true
  | .ty _ => true
  | .scr _ => true
def cloL (c : Nat) : List D → Bool
  | [] => true
  | x :: r => clo c x && cloL c r
end
def cloO (c : Nat) : O → Bool
  | .lst xs => cloL c xs
  | .dct ks vs => cloL c ks && cloL c vs
  | .tab => true
/-- barriers; the tables of the defs' code objects, the first places -/
structure Bs where
  l : List Nat
  ts : List Addr
instance : Membership Nat Bs := ⟨fun b c => c ∈ b.l⟩
def Bs.cons (n : Nat) (b : Bs) : Bs := ⟨n :: b.l, b.ts⟩

mutual
/-- as data of the model's (no places, no objects in it) -/
def py : D → Option PyData
  | .non => some .none
  | .bl b => some (.bool b)
  | .int i => some (.int i)
  | .str x => some (.str x)
  | .tup xs => match pyL xs with
    | some l => some (.tuple l)
    | none => none
  | .lst xs => match pyL xs with
    | some l => some (.list l)
    | none => none
  | .dct ks vs => match pyL ks, pyL vs with
    | some a, some b => some (.dict (a.zip b))
    | _, _ => none
  | .loc _ => none
  | .ref _ => none
  | .ty _ => none
  | .scr _ => none
def pyL : List D → Option (List PyData)
  | [] => some []
  | x :: r => match py x, pyL r with
    | some a, some b => some (a :: b)
    | _, _ => none
end

/-- what a name of an object stands for: the object itself -/
def der (st : Store) : D → D
  | .loc i => match st[i]? with
    | some (.lst xs) => .lst xs
    | some (.dct ks vs) => .dct ks vs
    | _ => .loc i
  | d => d

/-! ### syntax -/
/-- built-ins by name -/
inductive BI where
  | len | list | tuple | repr | str1 | int1 | sorted | sum | max1 | max2 | min1 | min2 | abs | dict1 | bool1 | ord | chr | isi
  deriving DecidableEq
/-- methods of built-in types -/
inductive ME where
  | append | extend | pop | popi | split | find | upper | lower | join | get1 | get2 | items | keys | values | setdef | insert | index | count | startswith | remove
  deriving DecidableEq
/-- what a loop walks -/
inductive IK where
  | seq | range1 | range2 | range3 | enum | zip | keys | items | values | strs | revd
  deriving DecidableEq
/-- a target -/
inductive T where
  | nm (i : Nat) | tp (t : T) | nil | cons (a r : T)
  deriving DecidableEq
inductive E where
  | var (i : Nat) | cint (i : Int) | cstr (x : Str) | cbl (b : Bool) | cnon
  | gl (x : Str) (j : Nat) | bty (t : Bt)
  | nil | cons (e es : E) | val (e : E)
  | tup (es : E) | lst (own : Bool) (es : E) | dnew (own : Bool) | dsp (es : E) | dst (e es : E)
  | bin (own : Bool) (op : Operator) (a b : E) | neg (a : E)
  | cmp (op : CmpOp) (a b : E) | cmp2 (op op' : CmpOp) (a b c : E)
  | and (a b : E) | or (a b : E) | one (a : E) | not (a : E) | ite (c a b : E)
  | ix (a b : E) | sl (own : Bool) (a lo hi : E) | rev (own : Bool) (a : E)
  | call (x : Str) (f : Nat) (es : E) | callk (x : Str) (f np : Nat) (ks : List Str) (perm : List Nat) (es ws : E)
  | bi (f : BI) (own : Bool) (es : E)
  | me (m : ME) (own : Bool) (o es : E)
  | lc (ik : IK) (it : E) (t : T) (ts e : E) (vs : List Nat)
  | all1 (ti : Nat) (ik : IK) (it : E) (t : T) (ts e : E) (vs : List Nat)
  deriving DecidableEq
inductive S where
  | skip | seq (a b : S)
  | asg (t : T) (e : E) | asgc (i : Nat) (ik : IK) (it : E) (t : T) (ts e : E) (vs : List Nat) | par (is : List Nat) (es : E) | six (o i e : E)
  | aug (i : Nat) (op : Operator) (e : E)
  | ex (e : E) | ret (e : E) | retN
  | ife (c : E) (a b : S) | for_ (ik : IK) (it : E) (t : T) (b : S) | whil (c : E) (b : S)
  | brk | cont

/-! ### what it does -/
inductive Res (α : Type) where
  | ok (a : α) (st : Store) | bad
def Res.bind {α β : Type} (r : Res α) (f : α → Store → Res β) : Res β :=
  match r with
  | .ok a st => f a st
  | .bad => .bad
/-- what a primitive gives: a value, or a new object -/
inductive PR where
  | val (d : D) | newL (xs : List D) | newD (ks vs : List D) | bad
def big : Nat := 16777216
def fits (xs : List D) : Bool := Nat.ble xs.length big
def PR.fin (own : Bool) (st : Store) : PR → Res D
  | .val d => .ok d st
  | .newL xs => if fits xs then (if own then .ok (.loc st.length) (st ++ [.lst xs]) else .ok (.lst xs) st) else .bad
  | .newD ks vs => if own then .ok (.loc st.length) (st ++ [.dct ks vs]) else .ok (.dct ks vs) st
  | .bad => .bad
end Mi
end
section
/-! Mi, part 1: data and the abstract heap. -/
namespace Mi
open PySem PySem.Spec PyProof.Rows L2

def ofKey : Key → D
  | .inl i => .int i
  | .inr x => .str x
/-- p is none of the n places -/
def Off (m : Nat → Addr) (n : Nat) (p : Addr) : Prop := ∀ i, i < n → m i ≠ p
def KT (K : PySem.W.Frag) (p : Addr) (vs : List V) : Prop :=
  ∃ (o : Obj) (its : Array Value) (n : Nat), K.lookup p = some o ∧ o.cls = .type "tuple" ∧ o.dict = none ∧ o.data = .seq its n ∧ its.size ≤ sizeLine ∧ Vals vs its.toList
def KL (K : PySem.W.Frag) (p : Addr) (xs : List V) : Prop :=
  ∃ (o : Obj) (its : Array Value) (n : Nat), K.lookup p = some o ∧ o.cls = .type "list" ∧ o.dict = none ∧ o.data = .seq its n ∧ its.size ≤ sizeLine ∧ Vals xs its.toList
/-- a tuple, by its own object -/
def nT (its : List Value) (vs : List V) : HO := .frz { cls := .type "tuple", data := .seq its.toArray } (.tup vs)
def isDict : HO → Bool
  | .dK _ => true
  | .frz _ (.dK _) => true
  | _ => false

mutual
/-- the value v bears the datum -/
def RD (K : PySem.W.Frag) (m : Nat → Addr) (n : Nat) (H : Hp) : D → V → Prop
  | .non, v => v = .non
  | .bl b, v => v = .bl b
  | .int i, v => v = .int i
  | .str x, v => v = .str x
  | .ref a, v => v = .ref a
  | .ty t, v => v = .ty t.name
  | .loc i, v => i < n ∧ v = .ref (m i)
  | .tup ds, v => ∃ p vs, v = .ref p ∧ ((∃ its, H p = some (nT its vs) ∧ Off m n p) ∨ KT K p vs) ∧ RDL K m n H ds vs
  | .lst ds, v => ∃ p vs, v = .ref p ∧ H p = some (.lst vs) ∧ Off m n p ∧ RDL K m n H ds vs
  | .dct ks ds, v => ∃ (p : Addr) (kk : List Key) (vs : List V), v = .ref p ∧ Rd H p (.dK (kk.zip vs)) ∧ Off m n p ∧ kk.length = vs.length ∧ ks = kk.map ofKey ∧ RDL K m n H ds vs
  | .scr ns, v => ∃ p, v = .ref p ∧ ((∃ o, H p = some (.frz o (.lst (ns.map V.int))) ∧ Off m n p) ∨ KL K p (ns.map V.int))
def RDL (K : PySem.W.Frag) (m : Nat → Addr) (n : Nat) (H : Hp) : List D → List V → Prop
  | [], vs => vs = []
  | d :: ds, vs => ∃ v r, vs = v :: r ∧ RD K m n H d v ∧ RDL K m n H ds r
end

structure Stp (m : Nat → Addr) (n : Nat) (H : Hp) (m' : Nat → Addr) (n' : Nat) (H' : Hp) : Prop where
  le : n ≤ n'
  eq : ∀ i, i < n → m' i = m i
  kp : ∀ p u, H p = some u → isDict u = false → Off m n p → H' p = some u
  kd : ∀ p kvs, Rd H p (.dK kvs) → Off m n p → Rd H' p (.dK kvs)
  nw : ∀ i, n ≤ i → i < n' → H (m' i) = none
  ow : ∀ p, H p ≠ none → H' p ≠ none

theorem Stp.refl {m : Nat → Addr} {n : Nat} {H : Hp} : Stp m n H m n H := ⟨Nat.le_refl _, fun _ _ => rfl, fun _ _ h _ _ => h, fun _ _ h _ => h, fun i h1 h2 => absurd h2 (Nat.not_lt.mpr h1), fun _ h => h⟩
theorem Stp.off {m m' : Nat → Addr} {n n' : Nat} {H H' : Hp} (s : Stp m n H m' n' H') {p : Addr} (h : H p ≠ none) (o : Off m n p) : Off m' n' p := fun i hi e => by
  by_cases hn : i < n
  · exact o i hn ((s.eq i hn).symm.trans e)
  · exact h (e ▸ s.nw i (Nat.not_lt.mp hn) hi)
theorem Rd.ne {H : Hp} {p : Addr} {u : HO} (r : Rd H p u) : H p ≠ none := by
  rcases r with r | ⟨o, r⟩ <;> rw [r] <;> exact fun z => by cases z
theorem Stp.trans {m m1 m2 : Nat → Addr} {n n1 n2 : Nat} {H H1 H2 : Hp} (a : Stp m n H m1 n1 H1) (b : Stp m1 n1 H1 m2 n2 H2) : Stp m n H m2 n2 H2 where
  le := Nat.le_trans a.le b.le
  eq := fun i h => (b.eq i (Nat.lt_of_lt_of_le h a.le)).trans (a.eq i h)
  kp := fun p u h d o => b.kp p u (a.kp p u h d o) d (a.off (by rw [h]; exact fun z => by cases z) o)
  kd := fun p kvs h o => b.kd p kvs (a.kd p kvs h o) (a.off (Rd.ne h) o)
  nw := fun i h1 h2 => by
    by_cases hn : i < n1
    · rw [b.eq i hn]; exact a.nw i h1 hn
    · have z := b.nw i (Nat.not_lt.mp hn) h2
      cases q : H (m2 i) with
      | none => rfl
      | some u => exact absurd z (a.ow _ (by rw [q]; exact fun z => by cases z))
  ow := fun p h => b.ow p (a.ow p h)

mutual
theorem RD.step {K : PySem.W.Frag} {m m' : Nat → Addr} {n n' : Nat} {H H' : Hp} (s : Stp m n H m' n' H') : ∀ (d : D) (v : V), RD K m n H d v → RD K m' n' H' d v
  | .non, _, h => by unfold RD at h ⊢; exact h
  | .bl _, _, h => by unfold RD at h ⊢; exact h
  | .int _, _, h => by unfold RD at h ⊢; exact h
  | .str _, _, h => by unfold RD at h ⊢; exact h
  | .ref _, _, h => by unfold RD at h ⊢; exact h
  | .ty _, _, h => by unfold RD at h ⊢; exact h
  | .loc i, _, h => by
    unfold RD at h ⊢
    exact ⟨Nat.lt_of_lt_of_le h.1 s.le, by rw [s.eq i h.1]; exact h.2⟩
  | .tup ds, _, h => by
    unfold RD at h ⊢
    obtain ⟨p, vs, e, h1, h2⟩ := h
    refine ⟨p, vs, e, ?_, RDL.step s ds vs h2⟩
    rcases h1 with ⟨its, h1, o⟩ | h1
    · exact .inl ⟨its, s.kp p _ h1 rfl o, s.off (by rw [h1]; exact fun z => by cases z) o⟩
    · exact .inr h1
  | .lst ds, _, h => by
    unfold RD at h ⊢
    obtain ⟨p, vs, e, h1, o, h2⟩ := h
    exact ⟨p, vs, e, s.kp p _ h1 rfl o, s.off (by rw [h1]; exact fun z => by cases z) o, RDL.step s ds vs h2⟩
  | .dct ks ds, _, h => by
    unfold RD at h ⊢
    obtain ⟨p, kk, vs, e, h1, o, hl, hk, h2⟩ := h
    exact ⟨p, kk, vs, e, s.kd p _ h1 o, s.off (Rd.ne h1) o, hl, hk, RDL.step s ds vs h2⟩
  | .scr ns, _, h => by
    unfold RD at h ⊢
    obtain ⟨p, e, h1⟩ := h
    refine ⟨p, e, ?_⟩
    rcases h1 with ⟨o, h1, h2⟩ | h1
    · exact .inl ⟨o, s.kp p _ h1 rfl h2, s.off (by rw [h1]; exact fun z => by cases z) h2⟩
    · exact .inr h1
theorem RDL.step {K : PySem.W.Frag} {m m' : Nat → Addr} {n n' : Nat} {H H' : Hp} (s : Stp m n H m' n' H') : ∀ (ds : List D) (vs : List V), RDL K m n H ds vs → RDL K m' n' H' ds vs
  | [], _, h => by unfold RDL at h ⊢; exact h
  | d :: ds, _, h => by
    unfold RDL at h ⊢
    obtain ⟨v, r, e, h1, h2⟩ := h
    exact ⟨v, r, e, RD.step s d v h1, RDL.step s ds r h2⟩
end
end Mi
end
section
/-! Mi, part 2: what expressions and statements do. -/
namespace Mi
open PySem L2

/-! ### primitives -/
def mulOk (i j : Int) : Bool := Nat.blt (i.natAbs.log2 + j.natAbs.log2) 1000000
def divOk (j : Int) : Bool := decide (0 < j) && Nat.blt j.natAbs.log2 9000
def powOk (i j : Int) : Bool := decide (0 ≤ j) && decide (j ≤ 1000000) && decide (i.natAbs < 2 ^ 64)
def cut {α : Type} (xs : List α) (lo hi : Option Int) : List α := (xs.drop (HT.sIx xs.length 0 lo)).take (HT.sIx xs.length xs.length hi - HT.sIx xs.length 0 lo)
def isWhole (n : Nat) (lo hi : Option Int) : Bool := decide (HT.sIx n 0 lo = 0) && decide (HT.sIx n n hi = n)
def rep {α : Type} (k : Nat) (xs : List α) : List α := (List.replicate k xs).flatten
def binD (op : Operator) (x y : D) : PR :=
  match op, x, y with
  | .Add, .int i, .int j => .val (.int (i + j))
  | .Add, .str i, .str j => if Nat.ble (i.length + j.length) big then .val (.str (i ++ j)) else .bad
  | .Add, .lst xs, .lst ys => .newL (xs ++ ys)
  | .Add, .tup xs, .tup ys => if fits (xs ++ ys) then .val (.tup (xs ++ ys)) else .bad
  | .Sub, .int i, .int j => .val (.int (i - j))
  | .Mult, .int i, .int j => if mulOk i j then .val (.int (i * j)) else .bad
  | .Mult, .lst xs, .int k => if decide (-(2 ^ 63) ≤ k) && decide (k < 2 ^ 63) && Nat.ble (xs.length * k.toNat) big then .newL (rep k.toNat xs) else .bad
  | .FloorDiv, .int i, .int j => if divOk j then .val (.int (i / j)) else .bad
  | .Mod, .int i, .int j => if decide (0 < j) then .val (.int (i % j)) else .bad
  | .Pow, .int i, .int j => if powOk i j then .val (.int (i ^ j.toNat)) else .bad
  | .BitAnd, .int i, .int j => .val (.int (Builtin.bitAnd i j))
  | .Mult, .str x, .int k => if decide (-(2 ^ 62) ≤ k) && decide (k < 2 ^ 32) && Nat.ble (x.length * k.toNat) big && Nat.ble x.length big then .val (.str (Txt.mul x k)) else .bad
  | .Mult, .tup xs, .int k => if decide (-1000000 ≤ k) && decide (k ≤ 1000) && Nat.ble xs.length 1000 then .val (.tup (rep k.toNat xs)) else .bad
  | _, _, _ => .bad
def eqP (x y : D) : Option Bool :=
  match py x, py y with
  | some a, some b => if SeqAt.shaped a && SeqAt.shaped b then some (PyData.eqv a b) else none
  | _, _ => none
/-- lists of numbers and texts, item by item -/
def eqFlat : List D → List D → Option Bool
  | [], [] => some true
  | .int i :: r, .int j :: r' => match eqFlat r r' with
    | some c => some (decide (i = j) && c)
    | none => none
  | .str i :: r, .str j :: r' => match eqFlat r r' with
    | some c => some (decide (i = j) && c)
    | none => none
  | _, _ => none
def eqD (x y : D) : Option Bool :=
  match x, y with
  | .int i, .int j => some (decide (i = j))
  | .str i, .str j => some (decide (i = j))
  | .lst xs, .lst ys => if xs.length = ys.length then (match eqFlat xs ys with
    | some c => some c
    | none => eqP (.lst xs) (.lst ys)) else some false
  | .tup xs, .tup [] => some xs.isEmpty
  | x, y => eqP x y
def keyOf : D → Option Key
  | .int i => some (.inl i)
  | .str x => some (.inr x)
  | _ => none
def keq : D → D → Bool
  | .int i, .int j => decide (i = j)
  | .str i, .str j => decide (i = j)
  | _, _ => false
/-- the entry under a key -/
def getK (k : D) : List D → List D → Option D
  | a :: ks, v :: vs => if keq a k then some v else getK k ks vs
  | _, _ => none
def putA {α β : Type} (p : β → Bool) (v : α) : List β → List α → List α
  | b :: bs, a :: as => (if p b then v else a) :: putA p v bs as
  | _, as => as
def hasK (k : D) (ks : List D) : Bool := ks.any fun a => keq a k
def inD (x y : D) : Option Bool :=
  match y with
  | .str j => match x with
    | .str i => some (!(Builtin.Str.occurrences j i 0 j.length 1).isEmpty)
    | _ => none
  | .lst ys => match py x, pyL ys with
    | some a, some bs => if SeqAt.shaped a && SeqAt.shaped (.list bs) then some (bs.any fun z => PyData.eqv z a) else none
    | _, _ => none
  | .dct ks _ => match keyOf x with
    | some _ => some (hasK x ks)
    | none => none
  | _ => none
def isNon : D → Bool
  | .non => true
  | _ => false
/-- is: None, or of two bools -/
def isD (x y : D) : Option Bool :=
  match x, y with
  | .bl b, .bl c => some (decide (b = c))
  | x, y => if isNon y then some (isNon x) else none
def cmpD (op : CmpOp) (x y : D) : Option Bool :=
  match op with
  | .Eq => eqD x y
  | .NotEq => (eqD x y).map not
  | .Lt => match x, y with
    | .int i, .int j => some (decide (i < j))
    | .str i, .str j => some (decide (i.cps.toList < j.cps.toList))
    | _, _ => none
  | .LtE => match x, y with
    | .int i, .int j => some (decide (i ≤ j))
    | .str i, .str j => some (!decide (j.cps.toList < i.cps.toList))
    | _, _ => none
  | .Gt => match x, y with
    | .int i, .int j => some (decide (j < i))
    | _, _ => none
  | .GtE => match x, y with
    | .int i, .int j => some (decide (j ≤ i))
    | _, _ => none
  | .In => inD x y
  | .NotIn => (inD x y).map not
  | .Is => isD x y
  | .IsNot => (isD x y).map not
def truD : D → Option Bool
  | .non => some false
  | .bl b => some b
  | .int i => some (i != 0)
  | .str x => if Nat.ble x.length big then some ((x.length : Int) != 0) else none
  | .tup xs => some (!xs.isEmpty)
  | .lst xs => some (!xs.isEmpty)
  | _ => none
def ixD (x y : D) : PR :=
  match x, y with
  | .tup xs, .int i => match atI xs i with
    | some v => .val v
    | none => .bad
  | .lst xs, .int i => match atI xs i with
    | some v => .val v
    | none => .bad
  | .str z, .int i => if Nat.ble z.length big then (match atI z.cps.toList i with
    | some c => .val (.str ⟨#[c]⟩)
    | none => .bad) else .bad
  | .dct ks vs, k => match keyOf k with
    | some _ => (match getK k ks vs with
      | some v => .val v
      | none => .bad)
    | none => .bad
  | _, _ => .bad
def slD (x : D) (lo hi : Option Int) : PR :=
  match x with
  | .tup xs => .val (.tup (cut xs lo hi))
  | .lst xs => .newL (cut xs lo hi)
  | .scr ns => .newL ((cut ns lo hi).map .int)
  | .str z => if Nat.ble z.length big then .val (.str (cutS z lo hi)) else .bad
  | _ => .bad
def revD (x : D) : PR :=
  match x with
  | .lst xs => .newL xs.reverse
  | .tup xs => .val (.tup xs.reverse)
  | _ => .bad
/-- isinstance of built-in types -/
def isiD (x : D) (t : Bt) : Option Bool :=
  match x with
  | .non => some false
  | .bl _ => some (decide (t = .tbool) || decide (t = .tint))
  | .int _ => some (decide (t = .tint))
  | .str _ => some (decide (t = .tstr))
  | .tup _ => some (decide (t = .ttuple))
  | .lst _ => some (decide (t = .tlist))
  | .dct _ _ => some (decide (t = .tdict))
  | _ => none
def strsOf : List D → Option (List Str)
  | [] => some []
  | .str x :: r => match strsOf r with
    | some l => some (x :: l)
    | none => none
  | _ => none
def intsOf : List D → Option (List Int)
  | [] => some []
  | .int x :: r => match intsOf r with
    | some l => some (x :: l)
    | none => none
  | _ => none
/-- what stands first among texts; the rest in order -/
def insS (x : Str) : List Str → List Str
  | [] => [x]
  | y :: r => if decide (y.cps.toList < x.cps.toList) then y :: insS x r else x :: y :: r
def sortS : List Str → List Str
  | [] => []
  | x :: r => insS x (sortS r)
mutual
/-- no list within -/
def noL : PyData → Bool
  | .none => true
  | .bool _ => true
  | .int _ => true
  | .str _ => true
  | .list _ => false
  | .tuple xs => noLL xs
  | .dict kvs => noLK kvs
def noLL : List PyData → Bool
  | [] => true
  | x :: r => noL x && noLL r
def noLK : List (PyData × PyData) → Bool
  | [] => true
  | (a, b) :: r => noL a && noL b && noLK r
end
def reprD (d : D) : PR :=
  match py d with
  | some p => if PyData.showable p && decide (PyData.depth p ≤ 60) && (!PyData.hasDict p || noL p) && Nat.ble (PyData.shown p).length big then .val (.str (PyData.shown p)) else .bad
  | none => .bad
/-- pairs of a key and something -/
def pairsD : List D → Option (List (D × D))
  | [] => some []
  | .tup [k, v] :: r => match keyOf k, pairsD r with
    | some _, some l => some ((k, v) :: l)
    | _, _ => none
  | _ => none
def putD (k v : D) (ks vs : List D) : List D × List D := if hasK k ks then (ks, putA (fun a => keq a k) v ks vs) else (ks ++ [k], vs ++ [v])
def mrgD : List (D × D) → List D → List D → List D × List D
  | [], ks, vs => (ks, vs)
  | (k, v) :: r, ks, vs => mrgD r (putD k v ks vs).1 (putD k v ks vs).2
def biD (f : BI) (ds : List D) : PR :=
  match f, ds with
  | .len, [.tup xs] => .val (.int xs.length)
  | .len, [.lst xs] => .val (.int xs.length)
  | .len, [.dct ks _] => .val (.int ks.length)
  | .len, [.str z] => if Nat.ble z.length big then .val (.int z.length) else .bad
  | .list, [.tup xs] => .newL xs
  | .list, [.lst xs] => .newL xs
  | .list, [.scr ns] => .newL (ns.map .int)
  | .list, [.dct ks _] => .newL ks
  | .tuple, [.tup xs] => .val (.tup xs)
  | .tuple, [.lst xs] => .val (.tup xs)
  | .repr, [d] => reprD d
  | .int1, [.int i] => .val (.int i)
  | .int1, [.bl b] => .val (.int (if b then 1 else 0))
  | .sorted, [.lst xs] => match strsOf xs with
    | some l => if Nat.blt l.length 64 then .newL ((sortS l).map .str) else .bad
    | none => .bad
  | .sum, [.lst xs] => match intsOf xs with
    | some l => .val (.int l.sum)
    | none => .bad
  | .isi, [d, .ty t] => match isiD d t with
    | some b => .val (.bl b)
    | none => .bad
  | .str1, [.int i] => if Nat.blt i.natAbs.log2 1920 then .val (.str (toString i)) else .bad
  | .dict1, [.dct ks vs] => .newD ks vs
  | .dict1, [.tup xs] => match pairsD xs with
    | some l => .newD (mrgD l [] []).1 (mrgD l [] []).2
    | none => .bad
  | .dict1, [.lst xs] => match pairsD xs with
    | some l => .newD (mrgD l [] []).1 (mrgD l [] []).2
    | none => .bad
  | _, _ => .bad

/-! ### the store -/
def mapO {α β : Type} (f : α → Option β) : List α → Option (List β)
  | [] => some []
  | x :: r => match f x, mapO f r with
    | some a, some l => some (a :: l)
    | _, _ => none
/-- by value, but for the places below b -/
def frz (b : Nat) (st : Store) : Nat → D → Option D
  | 0, _ => none
  | k + 1, d => match d with
    | .tup xs => (match mapO (frz b st k) xs with
      | some l => some (.tup l)
      | none => none)
    | .lst xs => (match mapO (frz b st k) xs with
      | some l => some (.lst l)
      | none => none)
    | .dct ks vs => (match mapO (frz b st k) vs with
      | some l => some (.dct ks l)
      | none => none)
    | .loc i => if i < b then some (.loc i) else (match st[i]? with
      | some (.lst xs) => (match mapO (frz b st k) xs with
        | some l => some (.lst l)
        | none => none)
      | some (.dct ks vs) => (match mapO (frz b st k) vs with
        | some l => some (.dct ks l)
        | none => none)
      | _ => none)
    | .non => some .non
    | .bl c => some (.bl c)
    | .int i => some (.int i)
    | .str x => some (.str x)
    | .ref a => some (.ref a)
    | .ty t => some (.ty t)
    | .scr ns => some (.scr ns)
/-- .. as data: int and str as they are -/
def eqF (st : Store) (x y : D) : Option Bool :=
  match x, y with
  | .int i, .int j => some (decide (i = j))
  | .str i, .str j => some (decide (i = j))
  | _, _ => match frz 0 st 64 x, frz 0 st 64 y with
    | some a, some b => eqD a b
    | _, _ => none
/-- two lists, by their lengths -/
def eqLen (x y : D) : Option Bool :=
  match x, y with
  | .lst xs, .lst ys => if xs.length = ys.length then (if xs.isEmpty then some true else none) else some false
  | .tup xs, .tup [] => some xs.isEmpty
  | _, _ => none
def eqS (st : Store) (x y : D) : Option Bool :=
  match eqLen (der st x) (der st y) with
  | some c => some c
  | none => eqF st x y
def cmpS (op : CmpOp) (st : Store) (x y : D) : Option Bool :=
  match op with
  | .Eq => eqS st x y
  | .NotEq => (eqS st x y).map not
  | op => cmpD op (der st x) (der st y)
/-- one more item at a place -/
def push (st : Store) (p : Nat) (y : D) : Option Store :=
  match st[p]? with
  | some (.lst ys) => if Nat.blt ys.length big then some (st.set p (.lst (ys ++ [y]))) else none
  | _ => none
def notTab (st : Store) (i : Nat) : Bool :=
  match st[i]? with
  | some .tab => false
  | _ => true
/-- an old object (below b) may take nothing but places below its own -/
def wr (b : Nat) (st : Store) (i : Nat) (o : O) : Option Store :=
  if i < st.length && (decide (b ≤ i) || cloO i o) && notTab st i then some (st.set i o) else none
def meL (b : Nat) (st : Store) (i : Nat) (xs : List D) (m : ME) (ds : List D) : Res PR :=
  match m, ds with
  | .append, [y] => if Nat.blt xs.length big then (match wr b st i (.lst (xs ++ [y])) with
    | some st' => .ok (.val .non) st'
    | none => .bad) else .bad
  | .extend, [y] => match der st y with
    | .lst ys => if Nat.ble (xs.length + ys.length) big then (match wr b st i (.lst (xs ++ ys)) with
      | some st' => .ok (.val .non) st'
      | none => .bad) else .bad
    | _ => .bad
  | .pop, [] => match xs[xs.length - 1]? with
    | some y => (match wr b st i (.lst xs.dropLast) with
      | some st' => .ok (.val y) st'
      | none => .bad)
    | none => .bad
  | .popi, [.int k] => if decide (-(2 ^ 63) ≤ k) && decide (k < 2 ^ 63) then (match seqIndex? k xs.length with
    | some j => (match xs[j]? with
      | some y => (match wr b st i (.lst (xs.eraseIdx j)) with
        | some st' => .ok (.val y) st'
        | none => .bad)
      | none => .bad)
    | none => .bad) else .bad
  | _, _ => .bad
def meV (m : ME) (x : D) (ds : List D) : PR :=
  match m, x, ds with
  | .split, .str a, [.str b] => if (b.length == 0) == false && Nat.ble (a.length + 2) big then .newL ((Txt.split a b).map .str) else .bad
  | .find, .str a, [.str b] => .val (.int (Txt.find a b))
  | .upper, .str a, [] => if Nat.ble a.length 5592405 then .val (.str (Txt.upper a)) else .bad
  | .lower, .str a, [] => if Nat.ble a.length 5592405 then .val (.str (Txt.lower a)) else .bad
  | .startswith, .str a, [.str b] => .val (.bl (Txt.startswith a b))
  | .get1, .dct ks vs, [k] => match keyOf k with
    | some _ => .val ((getK k ks vs).getD .non)
    | none => .bad
  | .get2, .dct ks vs, [k, d] => match keyOf k with
    | some _ => .val ((getK k ks vs).getD d)
    | none => .bad
  | _, _, _ => .bad
def meD (b : Nat) (st : Store) (m : ME) (x : D) (ds : List D) : Res PR :=
  match x with
  | .loc i => match st[i]? with
    | some (.lst xs) => meL b st i xs m ds
    | some (.dct ks vs) => .ok (meV m (.dct ks vs) ds) st
    | _ => .bad
  | x => .ok (meV m x ds) st
/-- of the kind that has this method -/
def isK (m : ME) (d : D) : Bool :=
  match d with
  | .lst _ => decide (m = .append) || decide (m = .extend) || decide (m = .pop) || decide (m = .popi)
  | .str _ => decide (m = .split) || decide (m = .find) || decide (m = .upper) || decide (m = .lower) || decide (m = .startswith)
  | .dct _ _ => decide (m = .get1) || decide (m = .get2)
  | _ => false
def setD (b : Nat) (st : Store) (o i v : D) : Option Store :=
  match o with
  | .loc p => match st[p]? with
    | some (.lst xs) => (match i with
      | .int k => (match ixN xs.length k with
        | some j => wr b st p (.lst (xs.set j v))
        | none => none)
      | _ => none)
    | some (.dct ks vs) => (match keyOf i with
      | some _ => if Nat.blt ks.length big then (if hasK i ks then wr b st p (.dct ks (putA (fun a => keq a i) v ks vs))
        else wr b st p (.dct (ks ++ [i]) (vs ++ [v]))) else none
      | none => none)
    | _ => none
  | _ => none

/-! ### dict displays -/
def kvsD : List D → Option (List (D × D))
  | [] => some []
  | k :: v :: r => match keyOf k, kvsD r with
    | some _, some l => some ((k, v) :: l)
    | _, _ => none
  | _ => none
def isE0 (st : Store) (p : Nat) : Bool :=
  match st[p]? with
  | some (.dct [] []) => true
  | _ => false
/-- the pairs into the empty dict at p -/
def dspD (p : Nat) (st : Store) (ds : List D) : Option Store :=
  match kvsD ds with
  | some l => if isE0 st p && Nat.ble l.length 15 then wr p st p (.dct (mrgD l [] []).1 (mrgD l [] []).2) else none
  | none => none
def notLoc (p : Nat) (d : D) : Bool :=
  match d with
  | .loc i => !(Nat.beq i p)
  | _ => true
/-- the rows of d into the empty dict at p -/
def dstD (p : Nat) (st : Store) (d : D) : Option Store :=
  match der st d with
  | .dct ks vs => if isE0 st p && notLoc p d then wr p st p (.dct ks vs) else none
  | _ => none
/-- the dict at r into the one at p -/
def dseD (p r : Nat) (st : Store) : Option Store :=
  match st[p]?, st[r]? with
  | some (.dct ks vs), some (.dct ks' vs') => if Nat.ble (ks.length + 15) big then wr p st p (.dct (mrgD (ks'.zip vs') ks vs).1 (mrgD (ks'.zip vs') ks vs).2) else none
  | _, _ => none

/-! ### targets, walks -/
mutual
def asgT : T → D → Sg → Option Sg
  | .nm i, d, σ => some (σ.set i (some d))
  | .tp t, d, σ => match d with
    | .tup xs => asgL t xs σ
    | _ => none
  | .nil, _, _ => none
  | .cons _ _, _, _ => none
def asgL : T → List D → Sg → Option Sg
  | .nil, ds, σ => match ds with
    | [] => some σ
    | _ => none
  | .cons t r, ds, σ => match ds with
    | d :: ds => (match asgT t d σ with
      | some σ1 => asgL r ds σ1
      | none => none)
    | [] => none
  | .nm _, _, _ => none
  | .tp _, _, _ => none
end
inductive Wk where
  | items (xs : List D) | loc (i : Nat) | enumL (i : Nat) | bad
def enumL (xs : List D) : List D := xs.mapIdx fun i x => .tup [.int i, x]
def lim62 (i : Int) : Bool := Nat.blt i.natAbs 4611686018427387904
def rng (lo : Int) (n : Nat) : List D := (List.range n).map fun j => .int (lo + (j : Nat))
def seqD : D → Option (List D)
  | .tup xs => some xs
  | .lst xs => some xs
  | _ => none
/-- zip(.., strict=True) -/
def zipW (x y : D) : Wk :=
  match seqD x, seqD y with
  | some xs, some ys => if xs.length = ys.length then .items ((xs.zip ys).map fun p => .tup [p.1, p.2]) else .bad
  | _, _ => .bad
def walkD (ik : IK) (ds : List D) : Wk :=
  match ik, ds with
  | .seq, [.tup xs] => .items xs
  | .seq, [.lst xs] => .items xs
  | .seq, [.loc i] => .loc i
  | .enum, [.lst xs] => .items (enumL xs)
  | .enum, [.loc i] => .enumL i
  | .strs, [.str x] => .items (x.cps.toList.map fun c => .str ⟨#[c]⟩)
  | .range1, [.int j] => if lim62 j then .items (rng 0 j.toNat) else .bad
  | .range2, [.int i, .int j] => if lim62 i && lim62 j then .items (rng i (j - i).toNat) else .bad
  | .zip, [x, y] => zipW x y
  | _, _ => .bad
def nowL (p : Nat) (st : Store) : Option (List D) := match st[p]? with
  | some (.lst xs) => some xs
  | _ => none
def nowE (p : Nat) (st : Store) : Option (List D) := match st[p]? with
  | some (.lst xs) => some (enumL xs)
  | _ => none
def wkOk (w : Wk) (st : Store) : Bool :=
  match w with
  | .items _ => true
  | .loc q => (nowL q st).isSome
  | .enumL q => (nowL q st).isSome
  | .bad => false
/-- what is walked -/
def toW (ik : IK) (ds : List D) (st : Store) : Res Wk := if wkOk (walkD ik ds) st then .ok (walkD ik ds) st else .bad
def wipeD (σ : Sg) : List Nat → Sg
  | [] => σ
  | v :: vs => (wipeD σ vs).set v none

/-! ### loops -/
inductive Fl where
  | nx (σ : Sg) | brk (σ : Sg) | cont (σ : Sg) | ret (d : D)
def forL (asg : D → Sg → Option Sg) (body : Sg → Store → Res Fl) : List D → Sg → Store → Res Fl
  | [], σ, st => .ok (.nx σ) st
  | x :: r, σ, st => match asg x σ with
    | none => .bad
    | some σ1 => match body σ1 st with
      | .ok (.nx σ2) st2 => forL asg body r σ2 st2
      | .ok (.cont σ2) st2 => forL asg body r σ2 st2
      | .ok (.brk σ2) st2 => .ok (.nx σ2) st2
      | .ok (.ret d) st2 => .ok (.ret d) st2
      | .bad => .bad
/-- by the index, over what stands now -/
def forX (asg : D → Sg → Option Sg) (body : Sg → Store → Res Fl) (now : Store → Option (List D)) : Nat → Nat → Sg → Store → Res Fl
  | 0, _, _, _ => .bad
  | fu + 1, k, σ, st => match now st with
    | some xs => (match xs[k]? with
      | none => .ok (.nx σ) st
      | some x => match asg x σ with
        | none => .bad
        | some σ1 => match body σ1 st with
          | .ok (.nx σ2) st2 => forX asg body now fu (k + 1) σ2 st2
          | .ok (.cont σ2) st2 => forX asg body now fu (k + 1) σ2 st2
          | .ok (.brk σ2) st2 => .ok (.nx σ2) st2
          | .ok (.ret d) st2 => .ok (.ret d) st2
          | .bad => .bad)
    | none => .bad
def lenAt (st : Store) (p : Nat) : Nat := match st[p]? with
  | some (.lst xs) => xs.length
  | _ => 0
def whileF (c : Sg → Store → Res Bool) (body : Sg → Store → Res Fl) : Nat → Sg → Store → Res Fl
  | 0, _, _ => .bad
  | fu + 1, σ, st => match c σ st with
    | .bad => .bad
    | .ok false st1 => .ok (.nx σ) st1
    | .ok true st1 => match body σ st1 with
      | .ok (.nx σ2) st2 => whileF c body fu σ2 st2
      | .ok (.cont σ2) st2 => whileF c body fu σ2 st2
      | .ok (.brk σ2) st2 => .ok (.nx σ2) st2
      | .ok (.ret d) st2 => .ok (.ret d) st2
      | .bad => .bad
def lcL (asg : D → Sg → Option Sg) (test : Sg → Store → Res Bool) (el : Sg → Store → Res D) (σ : Sg) (p : Nat) : List D → Store → Res Unit
  | [], st => .ok () st
  | x :: r, st => match asg x σ with
    | none => .bad
    | some σ1 => match test σ1 st with
      | .bad => .bad
      | .ok false st1 => lcL asg test el σ p r st1
      | .ok true st1 => match el σ1 st1 with
        | .bad => .bad
        | .ok y st2 => match push st2 p y with
          | some st3 => lcL asg test el σ p r st3
          | none => .bad
def lcX (asg : D → Sg → Option Sg) (test : Sg → Store → Res Bool) (el : Sg → Store → Res D) (σ : Sg) (p : Nat) (now : Store → Option (List D)) : Nat → Nat → Store → Res Unit
  | 0, _, _ => .bad
  | fu + 1, k, st => match now st with
    | some xs => (match xs[k]? with
      | none => .ok () st
      | some x => match asg x σ with
        | none => .bad
        | some σ1 => match test σ1 st with
          | .bad => .bad
          | .ok false st1 => lcX asg test el σ p now fu (k + 1) st1
          | .ok true st1 => match el σ1 st1 with
            | .bad => .bad
            | .ok y st2 => match push st2 p y with
              | some st3 => lcX asg test el σ p now fu (k + 1) st3
              | none => .bad)
    | none => .bad

/-- all(..): up to the first false -/
def allL (asg : D → Sg → Option Sg) (test el : Sg → Store → Res Bool) (σ : Sg) : List D → Store → Res Bool
  | [], st => .ok true st
  | x :: r, st => match asg x σ with
    | none => .bad
    | some σ1 => match test σ1 st with
      | .bad => .bad
      | .ok false st1 => allL asg test el σ r st1
      | .ok true st1 => match el σ1 st1 with
        | .bad => .bad
        | .ok false st2 => .ok false st2
        | .ok true st2 => allL asg test el σ r st2
def allX (asg : D → Sg → Option Sg) (test el : Sg → Store → Res Bool) (σ : Sg) (now : Store → Option (List D)) : Nat → Nat → Store → Res Bool
  | 0, _, _ => .bad
  | fu + 1, k, st => match now st with
    | some xs => (match xs[k]? with
      | none => .ok true st
      | some x => match asg x σ with
        | none => .bad
        | some σ1 => match test σ1 st with
          | .bad => .bad
          | .ok false st1 => allX asg test el σ now fu (k + 1) st1
          | .ok true st1 => match el σ1 st1 with
            | .bad => .bad
            | .ok false st2 => .ok false st2
            | .ok true st2 => allX asg test el σ now fu (k + 1) st2)
    | none => .bad
def allW (asg : D → Sg → Option Sg) (test el : Sg → Store → Res Bool) (σ : Sg) (w : Wk) (st : Store) : Res Bool :=
  match w with
  | .items xs => allL asg test el σ xs st
  | .loc q => allX asg test el σ (nowL q) (lenAt st q + 1) 0 st
  | .enumL q => allX asg test el σ (nowE q) (lenAt st q + 1) 0 st
  | .bad => .bad

/-! ### expressions -/
/-- what a def does: its number, the arguments, the barrier, the store -/
abbrev Run := Nat → List D → Nat → Store → Res D
/-- .. and the module's constants -/
structure Rt where
  call : Run
  gl : List D
def getS (σ : Sg) (i : Nat) : Option D := match σ[i]? with
  | some (some d) => some d
  | _ => none
def partOf : D → Option Int
  | .int i => some i
  | _ => none
/-- what is found, or it is bad -/
def some_ {α : Type} (o : Option α) (st : Store) : Res α :=
  match o with
  | some a => .ok a st
  | none => .bad
def asB (d : D) (st : Store) : Res Bool :=
  match d with
  | .bl c => .ok c st
  | _ => .bad
def asI (d : D) (st : Store) : Res Int :=
  match d with
  | .int c => .ok c st
  | _ => .bad
def lcW (asg : D → Sg → Option Sg) (test : Sg → Store → Res Bool) (el : Sg → Store → Res D) (σ : Sg) (p : Nat) (w : Wk) (st : Store) : Res Unit :=
  match w with
  | .items xs => lcL asg test el σ p xs st
  | .loc q => lcX asg test el σ p (nowL q) (lenAt st q + 1) 0 st
  | .enumL q => lcX asg test el σ p (nowE q) (lenAt st q + 1) 0 st
  | .bad => .bad
def forW (asg : D → Sg → Option Sg) (body : Sg → Store → Res Fl) (w : Wk) (σ : Sg) (st : Store) : Res Fl :=
  match w with
  | .items xs => forL asg body xs σ st
  | .loc p => forX asg body (nowL p) (lenAt st p + 1) 0 σ st
  | .enumL p => forX asg body (nowE p) (lenAt st p + 1) 0 σ st
  | .bad => .bad
/-- in another order -/
def pick {α : Type} (xs : List α) : List Nat → Option (List α)
  | [] => some []
  | i :: r => match xs[i]?, pick xs r with
    | some x, some l => some (x :: l)
    | _, _ => none
mutual
def ev (R : Rt) (b : Nat) : E → Sg → Store → Res D
  | .var i, σ, st => some_ (getS σ i) st
  | .cint i, _, st => .ok (.int i) st
  | .cstr x, _, st => .ok (.str x) st
  | .cbl c, _, st => .ok (.bl c) st
  | .cnon, _, st => .ok .non st
  | .gl _ j, _, st => some_ (R.gl[j]?) st
  | .bty t, _, st => .ok (.ty t) st
  | .nil, _, _ => .bad
  | .cons _ _, _, _ => .bad
  | .val x, σ, st => ev R b x σ st
  | .tup es, σ, st => (evA R b es σ st).bind fun ds st1 => if fits ds then .ok (.tup ds) st1 else .bad
  | .lst own es, σ, st => (evA R b es σ st).bind fun ds st1 => (PR.newL ds).fin own st1
  | .dnew own, _, st => (PR.newD [] []).fin own st
  | .dsp es, σ, st => (evA R b es σ (st ++ [.dct [] []])).bind fun ds st1 => (some_ (dspD st.length st1 ds) st1).bind fun st2 _ => .ok (.loc st.length) st2
  | .dst e es, σ, st => (ev R b e σ (st ++ [.dct [] []])).bind fun d st1 => (some_ (dstD st.length st1 d) st1).bind fun st2 _ => (evA R b es σ (st2 ++ [.dct [] []])).bind fun ds st3 =>
    (some_ (dspD st2.length st3 ds) st3).bind fun st4 _ => (some_ (dseD st.length st2.length st4) st4).bind fun st5 _ => .ok (.loc st.length) st5
  | .bin own op x y, σ, st => (ev R b x σ st).bind fun d1 st1 => (ev R b y σ st1).bind fun d2 st2 => (binD op (der st2 d1) (der st2 d2)).fin own st2
  | .neg x, σ, st => (ev R b x σ st).bind fun d st1 => (asI d st1).bind fun i st2 => .ok (.int (-i)) st2
  | .cmp op x y, σ, st => (ev R b x σ st).bind fun d1 st1 => (ev R b y σ st1).bind fun d2 st2 => (some_ (cmpS op st2 d1 d2) st2).bind fun c st3 => .ok (.bl c) st3
  | .cmp2 op op' x y z, σ, st => (ev R b x σ st).bind fun d1 st1 => (ev R b y σ st1).bind fun d2 st2 => (some_ (cmpS op st2 d1 d2) st2).bind fun c st3 =>
      match c with
      | false => .ok (.bl false) st3
      | true => (ev R b z σ st3).bind fun d3 st4 => (some_ (cmpS op' st4 d2 d3) st4).bind fun c st5 => .ok (.bl c) st5
  | .and x y, σ, st => (ev R b x σ st).bind fun d st1 => (asB d st1).bind fun c st2 =>
      match c with
      | false => .ok (.bl false) st2
      | true => ev R b y σ st2
  | .or x y, σ, st => (ev R b x σ st).bind fun d st1 => (asB d st1).bind fun c st2 =>
      match c with
      | true => .ok (.bl true) st2
      | false => ev R b y σ st2
  | .one x, σ, st => ev R b x σ st
  | .not x, σ, st => (ev R b x σ st).bind fun d st1 => (asB d st1).bind fun c st2 => .ok (.bl (!c)) st2
  | .ite c x y, σ, st => (evT R b c σ st).bind fun c st1 =>
      match c with
      | true => ev R b x σ st1
      | false => ev R b y σ st1
  | .ix x y, σ, st => (ev R b x σ st).bind fun d1 st1 => (ev R b y σ st1).bind fun d2 st2 => (ixD (der st2 d1) d2).fin false st2
  | .sl own x lo hi, σ, st => (ev R b x σ st).bind fun d st1 => (evP R b lo σ st1).bind fun l st2 => (evP R b hi σ st2).bind fun h st3 => (slD (der st3 d) l h).fin own st3
  | .rev own x, σ, st => (ev R b x σ st).bind fun d st1 => (revD (der st1 d)).fin own st1
  | .call _ f es, σ, st => (evA R b es σ st).bind fun ds st1 => R.call f ds b st1
  | .callk _ f np ks perm es ws, σ, st => (evA R b es σ st).bind fun ds st1 => (evA R b ws σ st1).bind fun zs st2 => if ds.length = np ∧ zs.length = ks.length then (some_ (pick (ds ++ zs) perm) st2).bind fun ys st3 => R.call f ys b st3 else .bad
  | .bi f own es, σ, st => (evA R b es σ st).bind fun ds st1 => (biD f (ds.map (der st1))).fin own st1
  | .me m own o es, σ, st => (ev R b o σ st).bind fun d st1 => if isK m (der st1 d) then (evA R b es σ st1).bind fun ds st2 => (meD b st2 m d ds).bind fun pr st3 => pr.fin own st3 else .bad
  | .lc ik it t ts e vs, σ, st => ((evA R b it σ st).bind fun ds st0 => toW ik ds st0).bind fun w st1 => (lcW (asgT t) (fun σ st => evT R b ts σ st) (fun σ st => ev R b e σ st) (wipeD σ vs) st1.length w (st1 ++ [.lst []])).bind fun _ st2 => .ok (.loc st1.length) st2
  | .all1 _ ik it t ts e vs, σ, st => ((evA R b it σ st).bind fun ds st0 => toW ik ds st0).bind fun w st1 => (allW (asgT t) (fun σ st => evT R b ts σ st) (fun σ st => (ev R b e σ st).bind fun d st1 => asB d st1) (wipeD σ vs) w st1).bind fun c st2 => .ok (.bl c) st2
/-- arguments -/
def evA (R : Rt) (b : Nat) : E → Sg → Store → Res (List D)
  | .nil, _, st => .ok [] st
  | .cons e es, σ, st => (ev R b e σ st).bind fun d st1 => (evA R b es σ st1).bind fun ds st2 => .ok (d :: ds) st2
  | _, _, _ => .bad
/-- as a test; a clause's tests: none (true), or one -/
def evT (R : Rt) (b : Nat) : E → Sg → Store → Res Bool
  | .and x y, σ, st => (evT R b x σ st).bind fun c st1 =>
      match c with
      | true => evT R b y σ st1
      | false => .ok false st1
  | .or x y, σ, st => (evT R b x σ st).bind fun c st1 =>
      match c with
      | true => .ok true st1
      | false => evT R b y σ st1
  | .one x, σ, st => evT R b x σ st
  | .not x, σ, st => (evT R b x σ st).bind fun c st1 => .ok (!c) st1
  | .ite c x y, σ, st => (evT R b c σ st).bind fun c st1 =>
      match c with
      | true => evT R b x σ st1
      | false => evT R b y σ st1
  | .nil, _, st => .ok true st
  | .cmp op x y, σ, st => (ev R b x σ st).bind fun d1 st1 => (ev R b y σ st1).bind fun d2 st2 => some_ (cmpS op st2 d1 d2) st2
  | .cmp2 op op' x y z, σ, st => (ev R b x σ st).bind fun d1 st1 => (ev R b y σ st1).bind fun d2 st2 => (some_ (cmpS op st2 d1 d2) st2).bind fun c st3 =>
      match c with
      | false => .ok false st3
      | true => (ev R b z σ st3).bind fun d3 st4 => some_ (cmpS op' st4 d2 d3) st4
  | .cons c _, σ, st => evT R b c σ st
  | .val x, σ, st => (ev R b x σ st).bind fun d st1 => some_ (truD (der st1 d)) st1
  | _, _, _ => .bad
/-- a part of a slice; nil: not there -/
def evP (R : Rt) (b : Nat) : E → Sg → Store → Res (Option Int)
  | .nil, _, st => .ok none st
  | .val x, σ, st => (ev R b x σ st).bind fun d st1 => (asI d st1).bind fun i st2 => .ok (some i) st2
  | _, _, _ => .bad
end

/-! ### statements -/
def setAll : List Nat → List D → Sg → Option Sg
  | [], [], σ => some σ
  | i :: is, d :: ds, σ => setAll is ds (σ.set i (some d))
  | _, _, _ => none
def augD (op : Operator) (x y : D) : Option D :=
  match x, y with
  | .int p, .int q => match op with
    | .Add => some (.int (p + q))
    | .Sub => some (.int (p - q))
    | .FloorDiv => if decide (0 < q) && decide (q < 1073741824) then some (.int (p / q)) else none
    | _ => none
  | .str p, .str q => match op with
    | .Add => if Nat.ble (p.length + q.length) big then some (.str (p ++ q)) else none
    | _ => none
  | _, _ => none
def ex (R : Rt) (fu b : Nat) : S → Sg → Store → Res Fl
  | .skip, σ, st => .ok (.nx σ) st
  | .seq x y, σ, st => (ex R fu b x σ st).bind fun f st1 =>
      match f with
      | .nx σ1 => ex R fu b y σ1 st1
      | r => .ok r st1
  | .asg t e, σ, st => (ev R b e σ st).bind fun d st1 => (some_ (asgT t d σ) st1).bind fun σ1 st2 => .ok (.nx σ1) st2
  | .asgc i ik it t ts e vs, σ, st => (ev R b (.lc ik it t ts e vs) σ st).bind fun d st1 => .ok (.nx (σ.set i (some d))) st1
  | .par is es, σ, st => (evA R b es σ st).bind fun ds st1 => (some_ (setAll is ds σ) st1).bind fun σ1 st2 => .ok (.nx σ1) st2
  | .six o i e, σ, st => (ev R b e σ st).bind fun v st1 => (ev R b o σ st1).bind fun d st2 => (ev R b i σ st2).bind fun k st3 =>
      match setD b st3 d k v with
      | some st4 => .ok (.nx σ) st4
      | none => .bad
  | .aug i op e, σ, st => (some_ (getS σ i) st).bind fun x st0 => (ev R b e σ st0).bind fun y st1 => (some_ (augD op x y) st1).bind fun d st2 => .ok (.nx (σ.set i (some d))) st2
  | .ex e, σ, st => (ev R b e σ st).bind fun _ st1 => .ok (.nx σ) st1
  | .ret e, σ, st => (ev R b e σ st).bind fun d st1 => .ok (.ret d) st1
  | .retN, _, st => .ok (.ret .non) st
  | .ife c x y, σ, st => (evT R b c σ st).bind fun c st1 =>
      match c with
      | true => ex R fu b x σ st1
      | false => ex R fu b y σ st1
  | .for_ ik it t s, σ, st => ((evA R b it σ st).bind fun ds st0 => toW ik ds st0).bind fun w st1 => forW (asgT t) (fun σ st => ex R fu b s σ st) w σ st1
  | .whil c s, σ, st => whileF (fun σ st => evT R b c σ st) (fun σ st => ex R fu b s σ st) fu σ st
  | .brk, σ, st => .ok (.brk σ) st
  | .cont, σ, st => .ok (.cont σ) st

/-! ### defs -/
structure Fn where
  np : Nat
  nl : Nat
  gc : Bool
  body : S
def endF (gc : Bool) (n : Nat) (d : D) (st : Store) : Res D :=
  if gc then (if clo n d then .ok d (st.take n) else (match frz n st 64 d with
    | some d' => .ok d' (st.take n)
    | none => .bad)) else .ok d st
def callF (R : Rt) (fu : Nat) (f : Fn) (ds : List D) (b : Nat) (st : Store) : Res D :=
  if ds.length = f.np then
    (match ex R fu (if f.gc then st.length else b) f.body (ds.map some ++ List.replicate f.nl none) st with
    | .ok (.ret d) st1 => endF f.gc st.length d st1
    | .ok (.nx _) st1 => endF f.gc st.length .non st1
    | _ => .bad)
  else .bad
/-- the defs of a text, k calls deep -/
def run (tb : List Fn) (gs : List D) (fu : Nat) : Nat → Run
  | 0, _, _, _, _ => .bad
  | k + 1, f, ds, b, st => match tb[f]? with
    | some fn => callF ⟨run tb gs fu k, gs⟩ fu fn ds b st
    | none => .bad
end Mi
end
section
/-! Mi, part 3: the store and the abstract heap; readings by what is done. -/
namespace Mi
open PySem PySem.Spec PyProof.Rows L2

/-- the object of the store stands at p -/
def OD (K : PySem.W.Frag) (m : Nat → Addr) (n : Nat) (H : Hp) : O → Addr → Prop
  | .lst ds, p => ∃ vs, H p = some (.lst vs) ∧ RDL K m n H ds vs
  | .dct ks ds, p => ∃ (kk : List Key) (vs : List V), H p = some (.dK (kk.zip vs)) ∧ kk.length = vs.length ∧ ks = kk.map ofKey ∧ RDL K m n H ds vs
  | .tab, p => GxR.TabG H p
structure Wf (K : PySem.W.Frag) (bs : Bs) (m : Nat → Addr) (st : Store) (H : Hp) : Prop where
  inj : ∀ i j, i < st.length → j < st.length → m i = m j → i = j
  ob : ∀ i o, st[i]? = some o → OD K m st.length H o (m i)
  cl : ∀ b ∈ bs, ∀ i o, i < b → st[i]? = some o → cloO b o = true
  le : ∀ b ∈ bs, b ≤ st.length
  tb : ∀ i P, bs.ts[i]? = some P → st[i]? = some .tab ∧ m i = P
  tl : ∀ b ∈ bs, bs.ts.length ≤ b
theorem OD.ne {K : PySem.W.Frag} {m : Nat → Addr} {n : Nat} {H : Hp} {o : O} {p : Addr} (h : OD K m n H o p) : H p ≠ none := by
  cases o with
  | lst ds => obtain ⟨vs, h, _⟩ := h; rw [h]; exact fun z => by cases z
  | dct ks ds => obtain ⟨kk, vs, h, _⟩ := h; rw [h]; exact fun z => by cases z
  | tab => obtain ⟨ps, h, _⟩ := h; rw [h]; exact fun z => by cases z
theorem cloL_keys (c : Nat) : ∀ kk : List Key, cloL c (kk.map ofKey) = true
  | [] => by
    show cloL c [] = true
    unfold cloL
    rfl
  | k :: r => by
    show cloL c (ofKey k :: r.map ofKey) = true
    unfold cloL
    rw [Bool.and_eq_true]
    exact ⟨by cases k <;> (unfold ofKey clo; rfl), cloL_keys c r⟩
section
variable {K : PySem.W.Frag} {bs : Bs} {m : Nat → Addr} {st : Store} {H H' : Hp} {p : Addr} {u : HO} {i n n' : Nat}
theorem Wf.ne (W : Wf K bs m st H) (h : i < st.length) : H (m i) ≠ none := (W.ob i _ (List.getElem?_eq_getElem h)).ne
/-- a new object that is none of the store's -/
theorem Stp.new (h : H p = none) : Stp m n H m n (upd H p u) where
  le := Nat.le_refl _
  eq := fun _ _ => rfl
  kp := fun q w e _ _ => by rw [upd_ne (ne_of_none e h)]; exact e
  kd := fun q kvs e _ => by
    rcases e with e | ⟨o, e⟩
    · exact .inl (by rw [upd_ne (ne_of_none e h)]; exact e)
    · exact .inr ⟨o, by rw [upd_ne (ne_of_none e h)]; exact e⟩
  nw := fun i h1 h2 => absurd h2 (Nat.not_lt.mpr h1)
  ow := fun q e => by
    by_cases hq : q = p
    · rw [hq, upd_same]; exact fun z => by cases z
    · rw [upd_ne hq]; exact e
/-- one of the places is written -/
theorem Stp.wr (h : i < n) (hn : H (m i) ≠ none) : Stp m n H m n (upd H (m i) u) where
  le := Nat.le_refl _
  eq := fun _ _ => rfl
  kp := fun q w e _ o => by rw [upd_ne (fun z => o i h z.symm)]; exact e
  kd := fun q kvs e o => by
    have hq : q ≠ m i := fun z => o i h z.symm
    rcases e with e | ⟨od, e⟩
    · exact .inl (by rw [upd_ne hq]; exact e)
    · exact .inr ⟨od, by rw [upd_ne hq]; exact e⟩
  nw := fun i h1 h2 => absurd h2 (Nat.not_lt.mpr h1)
  ow := fun q e => by
    by_cases hq : q = m i
    · rw [hq, upd_same]; exact fun z => by cases z
    · rw [upd_ne hq]; exact e
/-- one more place -/
def put (m : Nat → Addr) (n : Nat) (p : Addr) : Nat → Addr := fun i => if i = n then p else m i
theorem put_at {m : Nat → Addr} {n : Nat} {p : Addr} : put m n p n = p := if_pos rfl
theorem put_lt {m : Nat → Addr} {n : Nat} {p : Addr} {i : Nat} (h : i < n) : put m n p i = m i := if_neg (Nat.ne_of_lt h)
theorem Stp.put (h : H p = none) : Stp m n H (put m n p) (n + 1) (upd H p u) where
  le := Nat.le_succ _
  eq := fun i h => put_lt h
  kp := (Stp.new (m := m) (n := n) (u := u) h).kp
  kd := (Stp.new (m := m) (n := n) (u := u) h).kd
  nw := fun i h1 h2 => by
    have e : i = n := by omega
    subst e
    rw [put_at]; exact h
  ow := (Stp.new (m := m) (n := n) (u := u) h).ow
theorem OD.step {m' : Nat → Addr} {o : O} (s : Stp m n H m' n' H') (h : OD K m n H o p) (e : H' p = H p) : OD K m' n' H' o p := by
  cases o with
  | lst ds => obtain ⟨vs, h1, h2⟩ := h; exact ⟨vs, e.trans h1, h2.step s _ _⟩
  | dct ks ds => obtain ⟨kk, vs, h1, h2, h3, h4⟩ := h; exact ⟨kk, vs, e.trans h1, h2, h3, h4.step s _ _⟩
  | tab => obtain ⟨ps, h1, h2⟩ := h; exact ⟨ps, e.trans h1, h2⟩
theorem Wf.new (W : Wf K bs m st H) (h : H p = none) : Wf K bs m st (upd H p u) :=
  ⟨W.inj, fun i o e => (W.ob i o e).step (Stp.new h) (upd_ne fun z => (W.ob i o e).ne (z ▸ h)), W.cl, W.le, W.tb, W.tl⟩
theorem Wf.put {o : O} (W : Wf K bs m st H) (h : H p = none) (ho : OD K (put m st.length p) (st.length + 1) (upd H p u) o p) : Wf K bs (put m st.length p) (st ++ [o]) (upd H p u) := by
  have hl : (st ++ [o]).length = st.length + 1 := by simp
  have nep : ∀ i, i < st.length → m i ≠ p := fun i hi z => W.ne hi (z ▸ h)
  refine ⟨fun i j hi hj e => ?_, fun i o' e => ?_, fun b hb' i o' hi e => ?_, fun b hb' => ?_, fun i P hP => ?_, W.tl⟩
  · rw [hl] at hi hj
    by_cases h1 : i < st.length
    · by_cases h2 : j < st.length
      · rw [put_lt h1, put_lt h2] at e; exact W.inj i j h1 h2 e
      · have e2 : j = st.length := by omega
        subst e2
        rw [put_lt h1, put_at] at e; exact absurd e (nep i h1)
    · have e1 : i = st.length := by omega
      subst e1
      by_cases h2 : j < st.length
      · rw [put_lt h2, put_at] at e; exact absurd e.symm (nep j h2)
      · omega
  · rw [hl]
    by_cases h1 : i < st.length
    · rw [List.getElem?_append_left h1] at e
      rw [put_lt h1]
      exact (W.ob i o' e).step (Stp.put h) (upd_ne (nep i h1))
    · have h2 : i < (st ++ [o]).length := (List.getElem?_eq_some_iff.mp e).1
      have e1 : i = st.length := by omega
      subst e1
      rw [List.getElem?_concat_length] at e
      cases e
      rw [put_at]; exact ho
  · have h1 : i < st.length := Nat.lt_of_lt_of_le hi (W.le b hb')
    rw [List.getElem?_append_left h1] at e
    exact W.cl b hb' i o' hi e
  · rw [hl]; exact Nat.le_succ_of_le (W.le b hb')
  · obtain ⟨h1, h2⟩ := W.tb i P hP
    have h3 : i < st.length := (List.getElem?_eq_some_iff.mp h1).1
    exact ⟨by rw [List.getElem?_append_left h3]; exact h1, by rw [put_lt h3]; exact h2⟩
mutual
theorem clo_mono {b c : Nat} (h : b ≤ c) : ∀ d : D, clo b d = true → clo c d = true
  | .tup xs, e => by unfold clo at e ⊢; exact cloL_mono h xs e
  | .lst xs, e => by unfold clo at e ⊢; exact cloL_mono h xs e
  | .dct ks vs, e => by
    unfold clo at e ⊢
    rw [Bool.and_eq_true] at e ⊢
    exact ⟨cloL_mono h ks e.1, cloL_mono h vs e.2⟩
  | .loc i, e => by
    unfold clo at e ⊢
    exact decide_eq_true (Nat.lt_of_lt_of_le (of_decide_eq_true e) h)
  | .non, _ => by unfold clo; rfl
  | .bl _, _ => by unfold clo; rfl
  | .int _, _ => by unfold clo; rfl
  | .str _, _ => by unfold clo; rfl
  | .ref _, _ => by unfold clo; rfl
  | .ty _, _ => by unfold clo; rfl
  | .scr _, _ => by unfold clo; rfl
theorem cloL_mono {b c : Nat} (h : b ≤ c) : ∀ ds : List D, cloL b ds = true → cloL c ds = true
  | [], _ => by unfold cloL; rfl
  | d :: ds, e => by
    unfold cloL at e ⊢
    rw [Bool.and_eq_true] at e ⊢
    exact ⟨clo_mono h d e.1, cloL_mono h ds e.2⟩
end
theorem cloO_mono {b c : Nat} (h : b ≤ c) {o : O} (e : cloO b o = true) : cloO c o = true := by
  cases o with
  | lst xs => exact cloL_mono h xs e
  | dct ks vs =>
    have e' : (cloL b ks && cloL b vs) = true := e
    show (cloL c ks && cloL c vs) = true
    rw [Bool.and_eq_true] at e' ⊢
    exact ⟨cloL_mono h ks e'.1, cloL_mono h vs e'.2⟩
  | tab => rfl
mutual
theorem RD.cut {b : Nat} (h : b ≤ n) : ∀ (d : D) (v : V), clo b d = true → RD K m n H d v → RD K m b H d v
  | .non, _, _, q => by unfold RD at q ⊢; exact q
  | .bl _, _, _, q => by unfold RD at q ⊢; exact q
  | .int _, _, _, q => by unfold RD at q ⊢; exact q
  | .str _, _, _, q => by unfold RD at q ⊢; exact q
  | .ref _, _, _, q => by unfold RD at q ⊢; exact q
  | .ty _, _, _, q => by unfold RD at q ⊢; exact q
  | .loc i, _, e, q => by
    unfold RD at q ⊢
    unfold clo at e
    exact ⟨of_decide_eq_true e, q.2⟩
  | .tup ds, _, e, q => by
    unfold RD at q ⊢
    unfold clo at e
    obtain ⟨p, vs, e1, h1, h2⟩ := q
    refine ⟨p, vs, e1, ?_, RDL.cut h ds vs e h2⟩
    rcases h1 with ⟨its, h1, o⟩ | h1
    · exact .inl ⟨its, h1, fun i hi => o i (Nat.lt_of_lt_of_le hi h)⟩
    · exact .inr h1
  | .lst ds, _, e, q => by
    unfold RD at q ⊢
    unfold clo at e
    obtain ⟨p, vs, e1, h1, o, h2⟩ := q
    exact ⟨p, vs, e1, h1, fun i hi => o i (Nat.lt_of_lt_of_le hi h), RDL.cut h ds vs e h2⟩
  | .dct ks ds, _, e, q => by
    unfold RD at q ⊢
    unfold clo at e
    rw [Bool.and_eq_true] at e
    obtain ⟨p, kk, vs, e1, h1, o, hl, hk, h2⟩ := q
    exact ⟨p, kk, vs, e1, h1, fun i hi => o i (Nat.lt_of_lt_of_le hi h), hl, hk, RDL.cut h ds vs e.2 h2⟩
  | .scr ns, _, _, q => by
    unfold RD at q ⊢
    obtain ⟨p, e1, h1⟩ := q
    refine ⟨p, e1, ?_⟩
    rcases h1 with ⟨o, h1, h2⟩ | h1
    · exact .inl ⟨o, h1, fun i hi => h2 i (Nat.lt_of_lt_of_le hi h)⟩
    · exact .inr h1
theorem RDL.cut {b : Nat} (h : b ≤ n) : ∀ (ds : List D) (vs : List V), cloL b ds = true → RDL K m n H ds vs → RDL K m b H ds vs
  | [], _, _, q => by unfold RDL at q ⊢; exact q
  | d :: ds, _, e, q => by
    unfold RDL at q ⊢
    unfold cloL at e
    rw [Bool.and_eq_true] at e
    obtain ⟨v, r, e1, h1, h2⟩ := q
    exact ⟨v, r, e1, RD.cut h d v e.1 h1, RDL.cut h ds r e.2 h2⟩
end
/-- what is not needed any more is forgotten -/
theorem Wf.cut {b : Nat} (W : Wf K (bs.cons b) m st H) (hc : ∀ c ∈ bs, c ≤ b) : Wf K bs m (st.take b) H := by
  have h : b ≤ st.length := W.le b (List.mem_cons_self ..)
  have hl : (st.take b).length = b := by rw [List.length_take]; omega
  refine ⟨fun i j hi hj e => W.inj i j (by rw [hl] at hi; omega) (by rw [hl] at hj; omega) e, fun i o e => ?_, fun c hc' i o hi e => ?_, fun c hc' => by rw [hl]; exact hc c hc', fun i P hP => ?_, fun c hc' => W.tl c (List.mem_cons_of_mem _ hc')⟩
  · have hi : i < b := by have := (List.getElem?_eq_some_iff.mp e).1; rw [hl] at this; exact this
    rw [List.getElem?_take_of_lt hi] at e
    have hc := W.cl b (List.mem_cons_self ..) i o hi e
    have ho := W.ob i o e
    rw [hl]
    cases o with
    | lst ds => obtain ⟨vs, h1, h2⟩ := ho; exact ⟨vs, h1, h2.cut h _ _ hc⟩
    | dct ks ds =>
      obtain ⟨kk, vs, h1, h2, h3, h4⟩ := ho
      have hc' : (cloL b ks && cloL b ds) = true := hc
      rw [Bool.and_eq_true] at hc'
      exact ⟨kk, vs, h1, h2, h3, h4.cut h _ _ hc'.2⟩
    | tab => exact ho
  · have hi2 : i < b := by have := (List.getElem?_eq_some_iff.mp e).1; rw [hl] at this; exact this
    rw [List.getElem?_take_of_lt hi2] at e
    exact W.cl c (List.mem_cons_of_mem _ hc') i o hi e
  · obtain ⟨h1, h2⟩ := W.tb i P hP
    have h3 : i < bs.ts.length := (List.getElem?_eq_some_iff.mp hP).1
    have h4 : bs.ts.length ≤ b := W.tl b (List.mem_cons_self ..)
    exact ⟨by rw [List.getElem?_take_of_lt (Nat.lt_of_lt_of_le h3 h4)]; exact h1, h2⟩
mutual
theorem RD.clo : ∀ (d : D) (v : V), RD K m n H d v → clo n d = true
  | .non, _, _ => by unfold Mi.clo; rfl
  | .bl _, _, _ => by unfold Mi.clo; rfl
  | .int _, _, _ => by unfold Mi.clo; rfl
  | .str _, _, _ => by unfold Mi.clo; rfl
  | .ref _, _, _ => by unfold Mi.clo; rfl
  | .ty _, _, _ => by unfold Mi.clo; rfl
  | .scr _, _, _ => by unfold Mi.clo; rfl
  | .loc i, _, q => by
    unfold RD at q
    unfold Mi.clo
    exact decide_eq_true q.1
  | .tup ds, _, q => by
    unfold RD at q
    unfold Mi.clo
    obtain ⟨p, vs, _, _, h2⟩ := q
    exact RDL.clo ds vs h2
  | .lst ds, _, q => by
    unfold RD at q
    unfold Mi.clo
    obtain ⟨p, vs, _, _, _, h2⟩ := q
    exact RDL.clo ds vs h2
  | .dct ks ds, _, q => by
    unfold RD at q
    unfold Mi.clo
    obtain ⟨p, kk, vs, _, _, _, _, hk, h2⟩ := q
    rw [Bool.and_eq_true]
    exact ⟨by rw [hk]; exact cloL_keys n kk, RDL.clo ds vs h2⟩
theorem RDL.clo : ∀ (ds : List D) (vs : List V), RDL K m n H ds vs → cloL n ds = true
  | [], _, _ => by unfold cloL; rfl
  | d :: ds, _, q => by
    unfold RDL at q
    unfold cloL
    rw [Bool.and_eq_true]
    obtain ⟨v, r, _, h1, h2⟩ := q
    exact ⟨RD.clo d v h1, RDL.clo ds r h2⟩
end
theorem OD.clo {o : O} (h : OD K m n H o p) : cloO n o = true := by
  cases o with
  | lst ds => obtain ⟨vs, _, h⟩ := h; exact RDL.clo ds vs h
  | dct ks ds =>
    obtain ⟨kk, vs, _, _, h3, h⟩ := h
    show (cloL n ks && cloL n ds) = true
    rw [h3, cloL_keys, RDL.clo ds vs h]
    rfl
  | tab => rfl
theorem Wf.tlen (W : Wf K bs m st H) : bs.ts.length ≤ st.length := by
  cases e : bs.ts.length with
  | zero => exact Nat.zero_le _
  | succ k =>
    obtain ⟨h1, _⟩ := W.tb k _ (List.getElem?_eq_getElem (by omega))
    exact (List.getElem?_eq_some_iff.mp h1).1
/-- a barrier is laid -/
theorem Wf.bar (W : Wf K bs m st H) : Wf K (bs.cons st.length) m st H := by
  refine ⟨W.inj, W.ob, fun b hb i o hi e => ?_, fun b hb => ?_, W.tb, fun b hb => ?_⟩
  · rcases List.mem_cons.mp hb with hb | hb
    · subst hb; exact (W.ob i o e).clo
    · exact W.cl b hb i o hi e
  · rcases List.mem_cons.mp hb with hb | hb
    · exact Nat.le_of_eq hb
    · exact W.le b hb
  · rcases List.mem_cons.mp hb with hb | hb
    · rw [hb]
      exact W.tlen
    · exact W.tl b hb
/-- an object is written -/
theorem Wf.wr {b : Nat} {st' : Store} {o : O} (W : Wf K bs m st H) (hb : ∀ c ∈ bs, c ≤ b) (hw : wr b st i o = some st') (ho : OD K m st.length (upd H (m i) u) o (m i)) :
    st'.length = st.length ∧ i < st.length ∧ Wf K bs m st' (upd H (m i) u) := by
  unfold Mi.wr at hw
  split at hw
  · rename_i hc
    cases hw
    rw [Bool.and_eq_true, Bool.and_eq_true, Bool.or_eq_true] at hc
    obtain ⟨hc, hnt⟩ := hc
    have hi : i < st.length := of_decide_eq_true hc.1
    have hl : (st.set i o).length = st.length := List.length_set
    refine ⟨hl, hi, fun j k hj hk e => W.inj j k (by rw [hl] at hj; exact hj) (by rw [hl] at hk; exact hk) e, fun j o' e => ?_, fun c hc' j o' hj e => ?_, fun c hc' => by rw [hl]; exact W.le c hc', fun j P hP => ?_, W.tl⟩
    · rw [hl]
      by_cases hj : j = i
      · subst hj
        rw [List.getElem?_set_self hi] at e
        cases e
        exact ho
      · rw [List.getElem?_set_ne (Ne.symm hj)] at e
        have hj' : j < st.length := (List.getElem?_eq_some_iff.mp e).1
        exact (W.ob j o' e).step (Stp.wr hi (W.ne hi)) (upd_ne fun z => hj (W.inj j i hj' hi z))
    · by_cases hji : j = i
      · subst hji
        rw [List.getElem?_set_self hi] at e
        cases e
        rcases hc.2 with h1 | h1
        · exact absurd (Nat.lt_of_lt_of_le hj (hb c hc')) (Nat.not_lt.mpr (of_decide_eq_true h1))
        · exact cloO_mono (Nat.le_of_lt hj) h1
      · rw [List.getElem?_set_ne (Ne.symm hji)] at e
        exact W.cl c hc' j o' hj e
    · obtain ⟨h1, h2⟩ := W.tb j P hP
      have hne : i ≠ j := fun z => by
        subst z
        unfold notTab at hnt
        rw [h1] at hnt
        cases hnt
      exact ⟨by rw [List.getElem?_set_ne hne]; exact h1, h2⟩
  · cases hw
end
end Mi
end
section
/-! Mi, part 4: readings by what is done; expressions. -/
namespace Mi
open PySem PySem.Spec PyProof.Rows L2

abbrev Rl (α β : Type) := (Nat → Addr) → Nat → Hp → α → β → Prop
/-- what is given is wanted -/
def Ok (K : PySem.W.Frag) (bs : Bs) {α β : Type} (rel : Rl α β) (m : Nat → Addr) (n : Nat) (H : Hp) (Q : β → Hp → Prop) (r : Res α) : Prop :=
  match r with
  | .ok a st' => ∀ m' H' v, Stp m n H m' st'.length H' → Wf K bs m' st' H' → rel m' st'.length H' a v → Q v H'
  | .bad => False
/-- the names' data -/
structure RS (K : PySem.W.Frag) (m : Nat → Addr) (n : Nat) (H : Hp) (σd : Sg) (σ : L2.St) : Prop where
  len : σd.length = σ.length
  get : ∀ (i : Nat) (d : D), σd[i]? = some (some d) → ∃ v : V, σ[i]? = some (some v) ∧ RD K m n H d v
theorem RS.step {K : PySem.W.Frag} {m m' : Nat → Addr} {n n' : Nat} {H H' : Hp} {σd : Sg} {σ : L2.St} (r : RS K m n H σd σ) (s : Stp m n H m' n' H') : RS K m' n' H' σd σ :=
  ⟨r.len, fun i d e => let ⟨v, h1, h2⟩ := r.get i d e; ⟨v, h1, h2.step s _ _⟩⟩
theorem RS.set {K : PySem.W.Frag} {m : Nat → Addr} {n : Nat} {H : Hp} {σd : Sg} {σ : L2.St} {d : D} {v : V} (r : RS K m n H σd σ) (i : Nat) (h : RD K m n H d v) : RS K m n H (σd.set i (some d)) (σ.set i (some v)) := by
  refine ⟨by simp [r.len], fun j d' e => ?_⟩
  by_cases hj : i = j
  · subst hj
    have hi : i < σd.length := by
      have := (List.getElem?_eq_some_iff.mp e).1
      simpa using this
    rw [List.getElem?_set_self hi] at e
    cases e
    exact ⟨v, List.getElem?_set_self (by rw [← r.len]; exact hi), h⟩
  · rw [List.getElem?_set_ne hj] at e
    obtain ⟨w, h1, h2⟩ := r.get j d' e
    exact ⟨w, by rw [List.getElem?_set_ne hj]; exact h1, h2⟩
/-- the reading of what is done -/
def tX (K : PySem.W.Frag) (bs : Bs) {α β : Type} (rel : Rl α β) (f : Sg → Store → Res α) : L2.St → Hp → (β → Hp → Prop) → Prop :=
  fun σ H Q => ∃ m σd st, Wf K bs m st H ∧ RS K m st.length H σd σ ∧ Ok K bs rel m st.length H Q (f σd st)
abbrev rB : Rl Bool Bool := fun _ _ _ a b => b = a
abbrev rP : Rl (Option Int) (Option Int) := fun _ _ _ a b => b = a
abbrev tE (K : PySem.W.Frag) (bs : Bs) (f : Sg → Store → Res D) : TE := tX K bs (RD K) f
abbrev tA (K : PySem.W.Frag) (bs : Bs) (f : Sg → Store → Res (List D)) : TA := tX K bs (RDL K) f
abbrev tT (K : PySem.W.Frag) (bs : Bs) (f : Sg → Store → Res Bool) : TT := tX K bs rB f

section
variable {K : PySem.W.Frag} {bs : Bs} {α β γ δ : Type} {rel : Rl α β} {rel' : Rl γ δ} {m m1 : Nat → Addr} {n n1 : Nat} {H H1 : Hp} {Q : β → Hp → Prop} {Q' : δ → Hp → Prop} {σd : Sg} {σ : L2.St} {st : Store}
theorem Ok.mono {r : Res α} {Q1 : β → Hp → Prop} (h : Ok K bs rel m n H Q r) (hq : ∀ v H', Q v H' → Q1 v H') : Ok K bs rel m n H Q1 r := by
  cases r with
  | ok a st' => exact fun m' H' v s w e => hq _ _ (h m' H' v s w e)
  | bad => exact h
theorem Ok.step {r : Res α} (h : Ok K bs rel m n H Q r) (s : Stp m n H m1 n1 H1) : Ok K bs rel m1 n1 H1 Q r := by
  cases r with
  | ok a st' => exact fun m' H' v s' w e => h m' H' v (s.trans s') w e
  | bad => exact h
/-- one thing after another -/
theorem Ok.bind {r : Res α} {g : α → Store → Res γ} (h : Ok K bs rel' m n H Q' (r.bind g)) :
    Ok K bs rel m n H (fun v H1 => ∃ m1 st1 a, Stp m n H m1 st1.length H1 ∧ Wf K bs m1 st1 H1 ∧ rel m1 st1.length H1 a v ∧ Ok K bs rel' m1 st1.length H1 Q' (g a st1)) r := by
  cases r with
  | ok a st' => exact fun m' H' v s w e => ⟨m', st', a, s, w, e, Ok.step (r := g a st') h s⟩
  | bad => exact h
theorem Ok.some_ {o : Option α} (h : Ok K bs rel m n H Q (Mi.some_ o st)) : ∃ a, o = some a ∧ Ok K bs rel m n H Q (.ok a st) := by
  cases o with
  | some a => exact ⟨a, rfl, h⟩
  | none => exact False.elim h
theorem Ok.at {a : α} {v : β} (h : Ok K bs rel m st.length H Q (.ok a st)) (w : Wf K bs m st H) (e : rel m st.length H a v) : Q v H := h m H v Stp.refl w e
theorem Ok.bindS {o : Option α} {g : α → Store → Res γ} (h : Ok K bs rel' m n H Q' ((Mi.some_ o st).bind g)) : ∃ a, o = some a ∧ Ok K bs rel' m n H Q' (g a st) := by
  cases o with
  | some a => exact ⟨a, rfl, h⟩
  | none => exact False.elim h
theorem PE.by {X : Cx} {e : Expr} {t t' : TE} (h : PE X e t) (hi : ∀ σ H Q, t' σ H Q → t σ H Q) : PE X e t' := ⟨fun pins s σ H Q I hw => h.run pins s σ H Q I (hi σ H Q hw)⟩
theorem PT.by {X : Cx} {e : Expr} {t t' : TT} (h : PT X e t) (hi : ∀ σ H Q, t' σ H Q → t σ H Q) : PT X e t' := ⟨fun pins s σ H Q I hw => h.run pins s σ H Q I (hi σ H Q hw)⟩
theorem PA.by {X : Cx} {e : List Expr} {t t' : TA} (h : PA X e t) (hi : ∀ σ H Q, t' σ H Q → t σ H Q) : PA X e t' := ⟨fun pos pins s σ H Q I hw => h.run pos pins s σ H Q I (hi σ H Q hw)⟩
theorem PS.by {X : Cx} {e : Stmt} {t t' : TS} (h : PS X e t) (hi : ∀ D σ H, t' D σ H → t D σ H) : PS X e t' := ⟨fun pins s σ H D I hw => h.run pins s σ H D I (hi D σ H hw)⟩
theorem PSs.by {X : Cx} {e : List Stmt} {t t' : TS} (h : PSs X e t) (hi : ∀ D σ H, t' D σ H → t D σ H) : PSs X e t' := ⟨fun pins s σ H D I hw => h.run pins s σ H D I (hi D σ H hw)⟩

/-! ### what stands behind a name -/
theorem RD.ref {p : Addr} {d : D} (h : RD K m n H d (.ref p)) : (∃ ds, d = .tup ds) ∨ (∃ ds, d = .lst ds) ∨ (∃ ks vs, d = .dct ks vs) ∨ (∃ ns, d = .scr ns) ∨ (∃ i, d = .loc i) ∨ ∃ a, d = .ref a := by
  cases d with
  | tup ds => exact .inl ⟨ds, rfl⟩
  | lst ds => exact .inr (.inl ⟨ds, rfl⟩)
  | dct ks vs => exact .inr (.inr (.inl ⟨ks, vs, rfl⟩))
  | scr ns => exact .inr (.inr (.inr (.inl ⟨ns, rfl⟩)))
  | loc i => exact .inr (.inr (.inr (.inr (.inl ⟨i, rfl⟩))))
  | ref a => exact .inr (.inr (.inr (.inr (.inr ⟨a, rfl⟩))))
  | non => unfold RD at h; cases h
  | bl _ => unfold RD at h; cases h
  | int _ => unfold RD at h; cases h
  | str _ => unfold RD at h; cases h
  | ty _ => unfold RD at h; cases h
/-- a datum read now (a place: what stands there) -/
def Rn (K : PySem.W.Frag) (m : Nat → Addr) (n : Nat) (H : Hp) : D → V → Prop
  | .lst ds, v => ∃ p vs, v = .ref p ∧ H p = some (.lst vs) ∧ RDL K m n H ds vs
  | .dct ks ds, v => ∃ (p : Addr) (kk : List Key) (vs : List V), v = .ref p ∧ Rd H p (.dK (kk.zip vs)) ∧ kk.length = vs.length ∧ ks = kk.map ofKey ∧ RDL K m n H ds vs
  | d, v => RD K m n H d v
theorem RD.now {d : D} {v : V} (W : Wf K bs m st H) (h : RD K m st.length H d v) : Rn K m st.length H (der st d) v := by
  cases d with
  | lst ds =>
    have h' := h
    unfold RD at h'
    obtain ⟨p, vs, e1, e2, _, e3⟩ := h'
    exact ⟨p, vs, e1, e2, e3⟩
  | dct ks ds =>
    have h' := h
    unfold RD at h'
    obtain ⟨p, kk, vs, e1, e2, _, e3, e4, e5⟩ := h'
    exact ⟨p, kk, vs, e1, e2, e3, e4, e5⟩
  | loc i =>
    have h' := h
    unfold RD at h'
    obtain ⟨hi, rfl⟩ := h'
    have ho := W.ob i _ (List.getElem?_eq_getElem hi)
    have hg := List.getElem?_eq_getElem hi
    cases hs : st[i] with
    | lst xs =>
      rw [hs] at ho hg
      obtain ⟨vs, e1, e2⟩ := ho
      rw [show der st (.loc i) = .lst xs by unfold der; simp only [hg]]
      exact ⟨m i, vs, rfl, e1, e2⟩
    | dct ks xs =>
      rw [hs] at ho hg
      obtain ⟨kk, vs, e1, e2, e3, e4⟩ := ho
      rw [show der st (.loc i) = .dct ks xs by unfold der; simp only [hg]]
      exact ⟨m i, kk, vs, rfl, .inl e1, e2, e3, e4⟩
    | tab =>
      rw [hs] at hg
      rw [show der st (.loc i) = .loc i by unfold der; simp only [hg]]
      exact h
  | tup ds => exact h
  | scr ns => exact h
  | ref a => exact h
  | non => exact h
  | bl _ => exact h
  | int _ => exact h
  | str _ => exact h
  | ty _ => exact h
theorem RDL.now (W : Wf K bs m st H) : ∀ {ds : List D} {vs : List V}, RDL K m st.length H ds vs → Paired (fun d v => Rn K m st.length H d v) (ds.map (der st)) vs
  | [], _, h => by
    unfold RDL at h
    subst h
    exact .nil
  | d :: ds, _, h => by
    unfold RDL at h
    obtain ⟨v, r, rfl, h1, h2⟩ := h
    exact .cons (h1.now W) (RDL.now W h2)
theorem RDL.len : ∀ {ds : List D} {vs : List V}, RDL K m n H ds vs → ds.length = vs.length
  | [], _, h => by
    unfold RDL at h
    subst h
    rfl
  | d :: ds, _, h => by
    unfold RDL at h
    obtain ⟨v, r, rfl, h1, h2⟩ := h
    rw [List.length_cons, List.length_cons, RDL.len h2]
theorem RDL.getD : ∀ {ds : List D} {vs : List V} {i : Nat} {d : D}, RDL K m n H ds vs → ds[i]? = some d → ∃ v, vs[i]? = some v ∧ RD K m n H d v
  | [], _, _, _, _, e => by simp at e
  | x :: ds, _, 0, d, h, e => by
    unfold RDL at h
    obtain ⟨v, r, rfl, h1, h2⟩ := h
    simp at e
    subst e
    exact ⟨v, rfl, h1⟩
  | x :: ds, _, i + 1, d, h, e => by
    unfold RDL at h
    obtain ⟨v, r, rfl, h1, h2⟩ := h
    obtain ⟨w, h3, h4⟩ := RDL.getD (i := i) h2 (by simpa using e)
    exact ⟨w, by simpa using h3, h4⟩
theorem RDL.getV : ∀ {ds : List D} {vs : List V} {i : Nat} {v : V}, RDL K m n H ds vs → vs[i]? = some v → ∃ d, ds[i]? = some d ∧ RD K m n H d v
  | [], _, _, _, h, e => by
    unfold RDL at h
    subst h
    simp at e
  | x :: ds, _, 0, v, h, e => by
    unfold RDL at h
    obtain ⟨w, r, rfl, h1, h2⟩ := h
    simp at e
    subst e
    exact ⟨x, rfl, h1⟩
  | x :: ds, _, i + 1, v, h, e => by
    unfold RDL at h
    obtain ⟨w, r, rfl, h1, h2⟩ := h
    obtain ⟨d, h3, h4⟩ := RDL.getV (i := i) h2 (by simpa using e)
    exact ⟨d, by simpa using h3, h4⟩
theorem RDL.app : ∀ {ds es : List D} {vs ws : List V}, RDL K m n H ds vs → RDL K m n H es ws → RDL K m n H (ds ++ es) (vs ++ ws)
  | [], _, _, _, h, h' => by
    unfold RDL at h
    subst h
    exact h'
  | d :: ds, es, _, ws, h, h' => by
    unfold RDL at h
    obtain ⟨v, r, rfl, h1, h2⟩ := h
    show RDL K m n H (d :: (ds ++ es)) (v :: (r ++ ws))
    unfold RDL
    exact ⟨v, r ++ ws, rfl, h1, RDL.app h2 h'⟩
theorem RDL.one {d : D} {v : V} (h : RD K m n H d v) : RDL K m n H [d] [v] := by
  unfold RDL
  exact ⟨v, [], rfl, h, by unfold RDL; rfl⟩
theorem RDL.nil : RDL K m n H [] [] := by
  unfold RDL
  rfl
theorem RDL.cons {d : D} {v : V} {ds : List D} {vs : List V} (h : RD K m n H d v) (h' : RDL K m n H ds vs) : RDL K m n H (d :: ds) (v :: vs) := by
  unfold RDL
  exact ⟨v, vs, rfl, h, h'⟩
theorem RDL.tk : ∀ {ds : List D} {vs : List V} (k : Nat), RDL K m n H ds vs → RDL K m n H (ds.take k) (vs.take k)
  | [], _, k, h => by
    unfold RDL at h
    subst h
    rw [List.take_nil, List.take_nil]
    exact RDL.nil
  | d :: ds, _, 0, h => RDL.nil
  | d :: ds, _, k + 1, h => by
    unfold RDL at h
    obtain ⟨v, r, rfl, h1, h2⟩ := h
    exact RDL.cons h1 (RDL.tk k h2)
theorem RDL.dp : ∀ {ds : List D} {vs : List V} (k : Nat), RDL K m n H ds vs → RDL K m n H (ds.drop k) (vs.drop k)
  | [], _, k, h => by
    unfold RDL at h
    subst h
    rw [List.drop_nil, List.drop_nil]
    exact RDL.nil
  | d :: ds, _, 0, h => h
  | d :: ds, _, k + 1, h => by
    unfold RDL at h
    obtain ⟨v, r, rfl, h1, h2⟩ := h
    exact RDL.dp k h2
theorem RDL.cut' {ds : List D} {vs : List V} (lo hi : Option Int) (h : RDL K m n H ds vs) : RDL K m n H (Mi.cut ds lo hi) (cutV vs lo hi) := by
  unfold Mi.cut cutV
  rw [h.len]
  exact RDL.tk _ (RDL.dp _ h)
theorem RDL.rev {ds : List D} {vs : List V} : RDL K m n H ds vs → RDL K m n H ds.reverse vs.reverse := by
  induction ds generalizing vs with
  | nil =>
    intro h
    unfold RDL at h
    subst h
    exact RDL.nil
  | cons d ds ih =>
    intro h
    unfold RDL at h
    obtain ⟨v, r, rfl, h1, h2⟩ := h
    rw [List.reverse_cons, List.reverse_cons]
    exact RDL.app (ih h2) (RDL.one h1)
theorem RDL.setA : ∀ {ds : List D} {vs : List V} {d : D} {v : V} (k : Nat), RDL K m n H ds vs → RD K m n H d v → RDL K m n H (ds.set k d) (vs.set k v)
  | [], _, _, _, k, h, _ => by
    unfold RDL at h
    subst h
    exact RDL.nil
  | x :: ds, _, d, v, 0, h, q => by
    unfold RDL at h
    obtain ⟨w, r, rfl, h1, h2⟩ := h
    exact RDL.cons q h2
  | x :: ds, _, d, v, k + 1, h, q => by
    unfold RDL at h
    obtain ⟨w, r, rfl, h1, h2⟩ := h
    exact RDL.cons h1 (RDL.setA k h2 q)
theorem RDL.eras : ∀ {ds : List D} {vs : List V} (k : Nat), RDL K m n H ds vs → RDL K m n H (ds.eraseIdx k) (vs.eraseIdx k)
  | [], _, k, h => by
    unfold RDL at h
    subst h
    exact RDL.nil
  | x :: ds, _, 0, h => by
    unfold RDL at h
    obtain ⟨w, r, rfl, h1, h2⟩ := h
    exact h2
  | x :: ds, _, k + 1, h => by
    unfold RDL at h
    obtain ⟨w, r, rfl, h1, h2⟩ := h
    exact RDL.cons h1 (RDL.eras k h2)
theorem RDL.ints : ∀ {ns : List Int}, RDL K m n H (ns.map .int) (ns.map .int)
  | [] => RDL.nil
  | x :: r => RDL.cons (by unfold RD; rfl) RDL.ints
theorem RDL.strs : ∀ {ns : List Str}, RDL K m n H (ns.map .str) (ns.map .str)
  | [] => RDL.nil
  | x :: r => RDL.cons (by unfold RD; rfl) RDL.strs
theorem fits_le {xs : List D} (h : fits xs = true) : xs.length ≤ sizeLine := by
  rw [sizeLine_eq]
  exact Nat.le_of_ble_eq_true h

/-! ### a new object -/
/-- behind a primitive: a new list, or a value that stands -/
def PRw (K : PySem.W.Frag) (m : Nat → Addr) (n : Nat) (H : Hp) (Q : VK) : PR → Prop
  | .val d => ∃ v, RD K m n H d v ∧ Q v H
  | .newL xs => ∃ vs, RDL K m n H xs vs ∧ ∀ p, H p = none → Q (.ref p) (upd H p (.lst vs))
  | .newD ks ds => ks = [] ∧ ds = [] ∧ ∀ p, H p = none → Q (.ref p) (upd H p (.dK []))
  | .bad => False
theorem Ok.fin_new {own : Bool} {xs : List D} {vs : List V} {Q : VK} (W : Wf K bs m st H) (r : RDL K m st.length H xs vs) (h : Ok K bs (RD K) m st.length H Q ((PR.newL xs).fin own st)) :
    vs.length ≤ sizeLine ∧ ∀ p, H p = none → Q (.ref p) (upd H p (.lst vs)) := by
  unfold PR.fin at h
  simp only at h
  split at h
  · rename_i hf
    refine ⟨by rw [← r.len]; exact fits_le hf, fun p hp => ?_⟩
    cases own with
    | false =>
      refine h m _ _ (Stp.new hp) (W.new hp) ?_
      have nep : Off m st.length p := fun i hi z => W.ne hi (z ▸ hp)
      unfold RD
      exact ⟨p, vs, rfl, upd_same, nep, r.step (Stp.new hp) _ _⟩
    | true =>
      have hl : (st ++ [O.lst xs]).length = st.length + 1 := by simp
      have h' : Ok K bs (RD K) m st.length H Q (.ok (.loc st.length) (st ++ [O.lst xs])) := h
      have h2 := h' (put m st.length p) (upd H p (.lst vs)) (.ref p)
      rw [hl] at h2
      refine h2 (Stp.put hp) (W.put hp ⟨vs, upd_same, r.step (Stp.put hp) _ _⟩) ?_
      unfold RD
      exact ⟨Nat.lt_succ_self _, by rw [put_at]⟩
  · exact False.elim h
theorem Ok.fin_newDK {own : Bool} {Q : VK} {kk : List Key} {ds : List D} {vs : List V} (W : Wf K bs m st H) (hl : kk.length = vs.length) (r : RDL K m st.length H ds vs) (h : Ok K bs (RD K) m st.length H Q ((PR.newD (kk.map ofKey) ds).fin own st)) :
    ∀ p, H p = none → Q (.ref p) (upd H p (.dK (kk.zip vs))) := by
  intro p hp
  unfold PR.fin at h
  simp only at h
  cases own with
  | false =>
    refine h m _ _ (Stp.new hp) (W.new hp) ?_
    have nep : Off m st.length p := fun i hi z => W.ne hi (z ▸ hp)
    unfold RD
    exact ⟨p, kk, vs, rfl, .inl upd_same, nep, hl, rfl, r.step (Stp.new hp) _ _⟩
  | true =>
    have hn : (st ++ [O.dct (kk.map ofKey) ds]).length = st.length + 1 := by simp
    have h' : Ok K bs (RD K) m st.length H Q (.ok (.loc st.length) (st ++ [O.dct (kk.map ofKey) ds])) := h
    have h2 := h' (put m st.length p) (upd H p (.dK (kk.zip vs))) (.ref p)
    rw [hn] at h2
    refine h2 (Stp.put hp) (W.put hp ⟨kk, vs, upd_same, hl, rfl, r.step (Stp.put hp) _ _⟩) ?_
    unfold RD
    exact ⟨Nat.lt_succ_self _, by rw [put_at]⟩
theorem Ok.fin_newD {own : Bool} {Q : VK} (W : Wf K bs m st H) (h : Ok K bs (RD K) m st.length H Q ((PR.newD [] []).fin own st)) :
    ∀ p, H p = none → Q (.ref p) (upd H p (.dK [])) := by
  intro p hp
  unfold PR.fin at h
  simp only at h
  cases own with
  | false =>
    refine h m _ _ (Stp.new hp) (W.new hp) ?_
    have nep : Off m st.length p := fun i hi z => W.ne hi (z ▸ hp)
    unfold RD
    exact ⟨p, [], [], rfl, .inl upd_same, nep, rfl, rfl, RDL.nil⟩
  | true =>
    have hl : (st ++ [O.dct [] []]).length = st.length + 1 := by simp
    have h' : Ok K bs (RD K) m st.length H Q (.ok (.loc st.length) (st ++ [O.dct [] []])) := h
    have h2 := h' (put m st.length p) (upd H p (.dK [])) (.ref p)
    rw [hl] at h2
    refine h2 (Stp.put hp) (W.put hp ⟨[], [], upd_same, rfl, rfl, RDL.nil⟩) ?_
    unfold RD
    exact ⟨Nat.lt_succ_self _, by rw [put_at]⟩
theorem Ok.fin_val {own : Bool} {d : D} {Q : VK} (h : Ok K bs (RD K) m n H Q ((PR.val d).fin own st)) : Ok K bs (RD K) m n H Q (.ok d st) := h
end
theorem RDL.oneV {K : PySem.W.Frag} {m : Nat → Addr} {n : Nat} {H : Hp} {d : D} {vs : List V} (h : RDL K m n H [d] vs) : ∃ v, vs = [v] ∧ RD K m n H d v := by
  unfold RDL at h
  obtain ⟨v, r, e, h1, h2⟩ := h
  unfold RDL at h2
  exact ⟨v, by rw [e, h2], h1⟩
theorem RDL.twoV {K : PySem.W.Frag} {m : Nat → Addr} {n : Nat} {H : Hp} {d d' : D} {vs : List V} (h : RDL K m n H [d, d'] vs) : ∃ v w, vs = [v, w] ∧ RD K m n H d v ∧ RD K m n H d' w := by
  unfold RDL at h
  obtain ⟨v, r, e, h1, h2⟩ := h
  obtain ⟨w, e2, h3⟩ := h2.oneV
  exact ⟨v, w, by rw [e, e2], h1, h3⟩
theorem RDL.zeroV {K : PySem.W.Frag} {m : Nat → Addr} {n : Nat} {H : Hp} {vs : List V} (h : RDL K m n H [] vs) : vs = [] := by
  unfold RDL at h
  exact h
end Mi
end
section
/-! Mi, part 38: a tuple times a number, whatever the number. -/
namespace Mi
open PySem PySem.Spec PyProof.Rows L2
theorem mul_same (l : Addr) (items : Array Value) (n : Nat) (dd : Option Addr) (sl : Array (Option Value)) (x : Int) (u : Tok) (a0 : (decide (x < -(2 ^ 63)) || decide (x ≥ 2 ^ 63)) = false) (a1 : (items.isEmpty || x == 1) = true) :
    Meets (Builtin.«tuple.__mul__» ⟨[.ref l, .int x u], []⟩) (fun _ R s => s.heap.get? l = some { cls := .type "tuple", dict := dd, data := .seq items n, slots := sl } ∧ R (.ok (.ret (Value.ref l))) s) :=
  .of_wp fun prog w A R s h => by
    obtain ⟨hp, g, d, tk, os⟩ := s
    obtain ⟨hl, h⟩ := h
    have ix := AutoSeq1.idx_int
    wp_walk using wpAny_loadPart' hl
    repeat (first
      | (refine wpAny_ite_false (decide_eq_false (by rw [a0]; exact Bool.false_ne_true)) ?_; wp_walk using wpAny_loadPart' hl)
      | (refine wpAny_ite_true (decide_eq_true a1) ?_; wp_walk using wpAny_loadPart' hl))
    exact ⟨_, rfl, h⟩
theorem mul_none (l : Addr) (items : Array Value) (n : Nat) (dd : Option Addr) (sl : Array (Option Value)) (x : Int) (u : Tok) (a0 : (decide (x < -(2 ^ 63)) || decide (x ≥ 2 ^ 63)) = false) (a1 : (items.isEmpty || x == 1) = false) (a2 : (decide (x ≤ 0) || items.isEmpty) = true) :
    Meets (Builtin.«tuple.__mul__» ⟨[.ref l, .int x u], []⟩) (fun _ R s => s.heap.get? l = some { cls := .type "tuple", dict := dd, data := .seq items n, slots := sl } ∧
      R (.ok (.ret (Value.ref s.heap.objs.size))) { s with heap := s.heap.push { cls := Value.type "tuple", data := Data.seq #[] }, toks := s.toks }) :=
  .of_wp fun prog w A R s h => by
    obtain ⟨hp, g, d, tk, os⟩ := s
    obtain ⟨hl, h⟩ := h
    have ix := AutoSeq1.idx_int
    wp_walk using wpAny_loadPart' hl
    repeat (first
      | (refine wpAny_ite_false (decide_eq_false (by rw [a0]; exact Bool.false_ne_true)) ?_; wp_walk using wpAny_loadPart' hl)
      | (refine wpAny_ite_false (decide_eq_false (by rw [a1]; exact Bool.false_ne_true)) ?_; wp_walk using wpAny_loadPart' hl)
      | (refine wpAny_ite_true (decide_eq_true a2) ?_; wp_walk using wpAny_loadPart' hl))
    exact ⟨_, rfl, h⟩
theorem SqT.ofT {K : PySem.W.Frag} {H : Hp} {p : Addr} {vs : List V} (h : (∃ its, H p = some (nT its vs)) ∨ KT K p vs) : SqT K H p vs := by
  rcases h with ⟨its, h⟩ | ⟨o, its, k, g1, g2, _, g3, g4, g5⟩
  · exact .inl (.inr ⟨_, h⟩)
  · exact .inr ⟨o, its, k, g1, g2, g3, g4, g5⟩
section
variable {X : Cx} {pins : List (Addr × Obj)} {σ : L2.St} {H : Hp} {s : Shared}
/-- a new tuple is laid -/
theorem inv_tup {its : List Value} {vs : List V} (I : Inv X pins σ H s) (r : Vals vs its) (hz : vs.length ≤ sizeLine) :
    Inv X pins σ (upd H s.heap.objs.size (nT its vs)) { s with heap := s.heap.push { cls := .type "tuple", data := .seq its.toArray } } :=
  I.laid (t' := s.toks) (fun b u e => Heap.get?_push_of_some _ e) (Nat.le_refl _) (show ObjOk X.prog X.w _ _ _ (nT its vs) from ⟨Heap.get?_push_size _ rfl, hz, its, r, IsTup.new _ _⟩)
/-- a tuple written out -/
def tTupN (t : TA) : TE := fun σ H Q => t σ H fun xs H1 => xs.length ≤ sizeLine ∧ ∀ p its, H1 p = none → Q (.ref p) (upd H1 p (nT its xs))
theorem pe_tupN {es : List Expr} {t : TA} {x1 : Nat} {pos : Pos} (h : PA X es t) : PE X (.Tuple es x1 pos) (tTupN t) := by
  refine ⟨fun pins s σ H Q I hq => ?_⟩
  refine wpAny_Tuple_spliced (thn (h.run pos pins s σ H _ I hq) fun us s1 ⟨xs, H1, I1, r, z, q⟩ => ⟨by rw [← r.length]; exact z, ?_⟩)
  exact ⟨.ref s1.heap.objs.size, upd H1 s1.heap.objs.size (nT us xs), inv_tup I1 r z, rfl, q _ _ (I1.hok.fresh (Nat.le_refl _))⟩
/-- t + u -/
def rCatN (K : PySem.W.Frag) : R2 := fun x y H Q => ∃ a b xs ys, x = .ref a ∧ y = .ref b ∧ SqT K H a xs ∧ SqT K H b ys ∧ xs.length + ys.length ≤ sizeLine ∧
  (xs = [] → Q (.ref b) H) ∧ (xs ≠ [] → ys = [] → Q (.ref a) H) ∧ (xs ≠ [] → ys ≠ [] → ∀ p its, H p = none → Q (.ref p) (upd H p (nT its (xs ++ ys))))
theorem op_catN : OpR X (binaryOp .Add) (rCatN X.K) := by
  intro pins s σ H x y v u Q I rx ry h
  obtain ⟨a, b, xs, ys, rfl, rfl, ha, hb, hz, q0, q1, q2⟩ := h
  cases rx
  cases ry
  obtain ⟨its, r1, p1, _⟩ := I.tuple ha
  obtain ⟨its2, r2, p2, _⟩ := I.tuple hb
  by_cases hx : xs = []
  · subst hx
    cases r1
    exact cat_tup0 p1 p2 ⟨.ref b, H, I, rfl, q0 rfl⟩
  · refine HT.cat_tup p1 p2 (fun z => hx (r1.nil_iff.mp z)) (fun z => ⟨.ref a, H, I, rfl, q1 hx (r2.nil_iff.mp z)⟩) (fun z => ?_) (by rw [← r1.length, ← r2.length]; exact hz)
    exact ⟨.ref s.heap.objs.size, _, inv_tup I (r1.append r2) (by rw [List.length_append]; exact hz), rfl, q2 hx (fun w => z (r2.nil_iff.mpr w)) _ _ (I.hok.fresh (Nat.le_refl _))⟩
/-- t[lo:hi]: the whole of it is t itself -/
def rSlN (K : PySem.W.Frag) : V → Option Int → Option Int → Hp → VK → Prop := fun x lo hi H Q => ∃ a xs, x = .ref a ∧ SqT K H a xs ∧
  (HT.sIx xs.length 0 lo = 0 ∧ HT.sIx xs.length xs.length hi = xs.length → Q (.ref a) H) ∧ (¬ (HT.sIx xs.length 0 lo = 0 ∧ HT.sIx xs.length xs.length hi = xs.length) → ∀ p its, H p = none → Q (.ref p) (upd H p (nT its (cutV xs lo hi))))
theorem sl_tupN : SlR X (rSlN X.K) := by
  intro pins s σ H x v vl vu lo hi sl Q I rx hs pl pu h
  obtain ⟨a, xs, rfl, hx, q1, q2⟩ := h
  cases rx
  obtain ⟨its, r, ht, hz⟩ := I.tuple hx
  have hlen : its.toArray.size = xs.length := by rw [List.size_toArray]; exact r.length.symm
  refine ⟨"tuple", _, PyProof.Rows.slot_tuple_getitem.lookup, ht.typeIs, ?_⟩
  by_cases hw : HT.sIx xs.length 0 lo = 0 ∧ HT.sIx xs.length xs.length hi = xs.length
  · exact getItem_tuple_whole ht hs pl pu (by rw [hlen]; exact hw) ⟨.ref a, H, I, rfl, q1 hw⟩
  · refine HT.getItem_tuple_cut ht hs pl pu (by rw [hlen]; exact hw) ?_ (by rw [hlen]; exact hz)
    rw [hlen]
    exact ⟨.ref s.heap.objs.size, _, inv_tup I ((r.drop (HT.sIx xs.length 0 lo)).take (HT.sIx xs.length xs.length hi - HT.sIx xs.length 0 lo)) (Nat.le_trans (cutV_length xs lo hi) hz), rfl, q2 hw _ _ (I.hok.fresh (Nat.le_refl _))⟩
/-- tuple(x) -/
theorem call_tupN : CallR X (.type "tuple") (fun xs H Q => ∃ p ys, xs = [.ref p] ∧ ((SqL X.K H p ys ∧ ∀ l its, H l = none → Q (.ref l) (upd H l (nT its ys))) ∨ (SqT X.K H p ys ∧ Q (.ref p) H))) := by
  intro pins s σ H xs us Q I r h
  obtain ⟨p, ys, rfl, h⟩ := h
  obtain ⟨u, rfl, rx⟩ := vals1 r
  cases rx
  rcases h with ⟨hq, q⟩ | ⟨hq, q⟩
  · obtain ⟨its, r', pl, hz⟩ := I.list hq
    have hlen := r'.length
    refine call_tuple_list pl.isList (fun h' kp => ?_) (by simp only [List.size_toArray] <;> omega)
    have I1 : Inv X pins σ H { s with heap := h' } := I.kept (t' := s.toks) kp
    exact ⟨.ref h'.objs.size, _, inv_tup I1 r' hz, rfl, q _ _ (I1.hok.fresh (Nat.le_refl _))⟩
  · obtain ⟨its, r', pl, hz⟩ := I.tuple hq
    exact call_tuple_same pl ⟨.ref p, H, I, rfl, q⟩
end
/-- a tuple times a number -/
def rMulA (K : PySem.W.Frag) : R2 := fun x y H Q => ∃ l k xs, x = .ref l ∧ y = .int k ∧ SqT K H l xs ∧ -(2 ^ 62) ≤ k ∧ k ≤ 1000 ∧ xs.length ≤ 1000 ∧ ((xs = [] ∨ k = 1) → Q (.ref l) H) ∧ ((¬ (xs = [] ∨ k = 1)) → ∀ p its, H p = none → Q (.ref p) (upd H p (nT its (List.replicate k.toNat xs).flatten)))
theorem op_mulA {X : Cx} : OpR X (binaryOp .Mult) (rMulA X.K) := by
  intro pins s σ H x y v u Q I rx ry h
  obtain ⟨l, k, xs, rfl, rfl, hT, b1, b2, b3, q1, q2⟩ := h
  cases rx
  obtain ⟨t, rfl⟩ := ry
  obtain ⟨its, r, ⟨⟨cls, dd, data, sl⟩, ho, hc, n, hd⟩, hs⟩ := I.tuple hT
  simp only at hc hd
  subst hc hd
  have hle : its.length = xs.length := r.length.symm
  have a0 : (decide (k < -(2 ^ 63)) || decide (k ≥ 2 ^ 63)) = false := by
    rw [decide_eq_false (by omega), decide_eq_false (by omega)] <;> rfl
  have hemp : its.toArray.isEmpty = decide (xs = []) := by
    cases its with
    | nil =>
      have z := List.eq_nil_of_length_eq_zero hle.symm
      rw [z]
      rfl
    | cons a c =>
      have z : xs ≠ [] := fun z => by rw [z] at hle; cases hle
      rw [decide_eq_false z]
      rfl
  by_cases hz : xs = [] ∨ k = 1
  · have a1 : (its.toArray.isEmpty || k == 1) = true := by
      rw [hemp]
      rcases hz with hz | hz
      · rw [decide_eq_true hz, Bool.true_or]
      · rw [hz]
        simp
    exact wpAny_binaryOp_repeat_ref (T := "tuple") (U := "int") (by decide) ⟨_, ho, rfl⟩ (fun s' => typeIs_int s' k t) noFill_tuple_mul F.fills_int_mul F.slot_int_rmul repeat_tuple F.slot_int_index.lookup
      (call_meets F.slot_int_rmul (typeIs_int s k t) F.entry_int_rmul (F.args_int_rmul_2 _ _) (int_rmul_tuple k t l its.toArray n dd sl)
        ⟨ho, rfl, ⟨_, ho, rfl⟩, call_meets F.slot_tuple_mul ⟨_, ho, rfl⟩ F.entry_tuple_mul (F.args_tuple_mul_2 _ _) (mul_same l its.toArray n dd sl k t a0 a1) ⟨ho, ⟨.ref l, H, I, rfl, q1 hz⟩⟩⟩)
  have a1 : (its.toArray.isEmpty || k == 1) = false := by
    rw [hemp, decide_eq_false (fun z => hz (.inl z)), Bool.false_or]
    exact beq_eq_false_iff_ne.mpr fun z => hz (.inr z)
  have flen : (List.replicate k.toNat xs).flatten.length ≤ sizeLine := by
    rw [PyProof.Rows.lm_len_rep_flat, sizeLine_eq]
    have a1 : k.toNat * xs.length ≤ 1000 * 1000 := Nat.mul_le_mul (by omega) b3
    omega
  have r2 := r.rep k.toNat
  by_cases hk : k ≤ 0
  · have a2 : (decide (k ≤ 0) || its.toArray.isEmpty) = true := by
      rw [decide_eq_true hk, Bool.true_or]
    refine wpAny_binaryOp_repeat_ref (T := "tuple") (U := "int") (by decide) ⟨_, ho, rfl⟩ (fun s' => typeIs_int s' k t) noFill_tuple_mul F.fills_int_mul F.slot_int_rmul repeat_tuple F.slot_int_index.lookup
      (call_meets F.slot_int_rmul (typeIs_int s k t) F.entry_int_rmul (F.args_int_rmul_2 _ _) (int_rmul_tuple k t l its.toArray n dd sl)
        ⟨ho, rfl, ⟨_, ho, rfl⟩, call_meets F.slot_tuple_mul ⟨_, ho, rfl⟩ F.entry_tuple_mul (F.args_tuple_mul_2 _ _) (mul_none l its.toArray n dd sl k t a0 a1 a2) ⟨ho, ?_⟩⟩)
    have e0 : (List.replicate k.toNat xs).flatten = [] := by
      rw [show k.toNat = 0 by omega]
      rfl
    have e1 : (List.replicate k.toNat its).flatten = [] := by
      rw [show k.toNat = 0 by omega]
      rfl
    have q3 := q2 hz s.heap.objs.size [] (I.hok.fresh (Nat.le_refl _))
    rw [e0] at q3
    exact ⟨.ref s.heap.objs.size, _, inv_tup I .nil (Nat.zero_le _), rfl, q3⟩
  · have hm : ((its.toArray.size : Nat) : Int) * k ≤ 1000000 := by
      rw [List.size_toArray, hle]
      have a1 : ((xs.length : Nat) : Int) * k ≤ 1000 * k := Int.mul_le_mul_of_nonneg_right (by omega) (by omega)
      omega
    have c2 : (decide (k ≤ 0) || its.toArray.isEmpty) = false := by
      rw [Bool.or_eq_false_iff] at a1 ⊢
      exact ⟨decide_eq_false hk, a1.1⟩
    have c4 : Builtin.Tuple.tupleTooMany (((its.toArray.size : Nat) : Int) * k) = false := by
      unfold Builtin.Tuple.tupleTooMany
      rw [sizeLine_eq]
      exact decide_eq_false (by omega)
    refine wpAny_binaryOp_repeat_ref (T := "tuple") (U := "int") (by decide) ⟨_, ho, rfl⟩ (fun s' => typeIs_int s' k t) noFill_tuple_mul F.fills_int_mul F.slot_int_rmul repeat_tuple F.slot_int_index.lookup
      (call_meets F.slot_int_rmul (typeIs_int s k t) F.entry_int_rmul (F.args_int_rmul_2 _ _) (int_rmul_tuple k t l its.toArray n dd sl)
        ⟨ho, rfl, ⟨_, ho, rfl⟩, call_meets F.slot_tuple_mul ⟨_, ho, rfl⟩ F.entry_tuple_mul (F.args_tuple_mul_2 _ _) (tuple_mulW l its.toArray n dd sl k t a0 a1 c2 (by omega) c4 (by rw [size_rep, List.size_toArray, ← r2.length]; exact flen)) ⟨ho, ?_⟩⟩)
    rw [size_rep]
    exact ⟨.ref s.heap.objs.size, _, inv_tup I r2 flen, rfl, q2 hz _ _ (I.hok.fresh (Nat.le_refl _))⟩
end Mi
end
section
/-! Mi, part 39: dict(t) of a tuple t of pairs. -/
namespace Mi
open PySem PySem.Spec PyProof.Rows L2
section
variable {X : Cx} {pins : List (Addr × Obj)} {σ : L2.St} {H : Hp} {s : Shared}
theorem pairs_of2 (I : Inv X pins σ H s) : ∀ {ps : List Addr} {kvs : List (Key × V)}, Paired (fun p kv => SqT X.K H p [kV kv.1, kv.2]) ps kvs →
    ∃ (prs : List (Key × Value)) (pl : List (Value × Value)), KV kvs prs ∧ prs.length = ps.length ∧ pl.length = ps.length ∧
      ∀ (j : Nat) (k v : Value), pl[j]? = some (k, v) → ∃ (b : Addr) (key : Key), ps[j]? = some b ∧ IsTup s.heap b #[k, v] ∧ prs[j]? = some (key, v) ∧ keyIs key k = true
  | _, _, .nil => ⟨[], [], .nil, rfl, rfl, fun j k v e => by simp at e⟩
  | _, _, .cons (a := p) (b := kv) h t => by
    obtain ⟨prs, pl, r, h1, h2, hp⟩ := pairs_of2 I t
    obtain ⟨its, rv, ht, _⟩ := I.tuple h
    obtain ⟨u, y, ei, ru, ry⟩ := vals2 rv
    subst ei
    refine ⟨(kv.1, y) :: prs, (u, y) :: pl, .cons ⟨rfl, ry⟩ r, by rw [List.length_cons, List.length_cons, h1], by rw [List.length_cons, List.length_cons, h2], fun j k v e => ?_⟩
    cases j with
    | zero =>
      have e' : (u, y) = (k, v) := Option.some.inj e
      cases e'
      exact ⟨p, kv.1, rfl, ht, rfl, kV_is (P := X.prog) (w := X.w) ru⟩
    | succ j =>
      obtain ⟨b, key, e1, e2, e3, e4⟩ := hp j k v (by simpa using e)
      exact ⟨b, key, by simpa using e1, e2, by simpa using e3, e4⟩
/-- the tuple's own object bears no dict -/
theorem plain_tup (I : Inv X pins σ H s) {a : Addr} {vs : List V} (h : (∃ its, H a = some (nT its vs)) ∨ KT X.K a vs) :
    ∃ its : List Value, Vals vs its ∧ PlainSeq "tuple" s.heap a its.toArray ∧ vs.length ≤ sizeLine := by
  rcases h with ⟨its, h⟩ | ⟨o, its, n, hk, hc, hd, hs, hz, r⟩
  · obtain ⟨e1, hz, its2, r, o, e2, hc, n, hd⟩ := (show ObjOk X.prog X.w H s.heap a (nT its vs) from I.hok a _ h)
    rw [e1] at e2
    cases e2
    injection hd with d1 _
    have e3 : its = its2 := by simpa using congrArg Array.toList d1
    subst e3
    exact ⟨its, r, ⟨_, _, e1, rfl, rfl, rfl⟩, hz⟩
  · refine ⟨its.toList, r, ⟨o, n, I.kIn a o hk, hc, hd, by simpa using hs⟩, ?_⟩
    have e := r.length
    simp only [Array.length_toList] at e
    omega
/-- dict(t) of a tuple of pairs (key, value): later pairs win, the place is the first one's -/
theorem call_dictTup (hcalm : X.calm = true) : CallR X (.type "dict") (fun xs H Q => ∃ (a : Addr) (ps : List Addr) (kvs : List (Key × V)), xs = [.ref a] ∧ ((∃ its, H a = some (nT its (ps.map V.ref))) ∨ KT X.K a (ps.map V.ref)) ∧ Paired (fun p kv => SqT X.K H p [kV kv.1, kv.2]) ps kvs ∧
    ∀ p, H p = none → Q (.ref p) (upd H p (.dK (mergeK [] kvs)))) := by
  intro pins s σ H xs us Q I r q
  obtain ⟨a, ps, kvs, ex, hq, hp, q⟩ := q
  subst ex
  obtain ⟨u, eu, rx⟩ := vals1 r
  subst eu
  cases rx
  obtain ⟨its, rv, pl, hz⟩ := plain_tup I hq
  have ei := refs_at rv
  subst ei
  rw [List.length_map] at hz
  obtain ⟨prs, prl, rel, hl1, hl2, hpr⟩ := pairs_of2 I hp
  have items : PairItems s.heap (ps.map Value.ref).toArray (fun j => (ps[j]?).getD 0) prl := by
    refine ⟨by simp [hl2], fun j k v hj => ?_⟩
    obtain ⟨b, key, e1, ⟨o, e2, e3, n, e4⟩, _, _⟩ := hpr j k v hj
    refine ⟨by simp [e1], .inl ?_⟩
    simp only [e1, Option.getD_some]
    exact ⟨o, e2, e3, n, e4⟩
  refine PySem.call_dict_pairs (knd := mixKind X.prog X.w) (kvs := prs) (PairArg.tuple a (ps.map Value.ref).toArray (fun j => (ps[j]?).getD 0) prl) (I.ok.hd hcalm) ⟨pl, items⟩ ⟨by rw [hl1, hl2], fun i key v e => ?_⟩ (by rw [hl2]; exact hz) fun h' tk hd' k => ?_
  · obtain ⟨b, key', _, _, e3, e4⟩ := hpr i key v e
    exact ⟨key', e3, e4⟩
  · have hm : (s.heap.objs.size == sysModules) = false := beq_eq_false_iff_ne.mpr (Nat.ne_of_gt I.big)
    have hlen : (mergeK [] kvs).length ≤ sizeLine := by
      refine Nat.le_trans (length_mergeK kvs []) ?_
      rw [List.length_nil, Nat.zero_add, rel.length, hl1]
      exact hz
    exact ⟨.ref s.heap.objs.size, upd H s.heap.objs.size (.dK (mergeK [] kvs)), I.laid (t' := tk) (fun b o e => k b o (fun z => nomatch z) e) (Nat.le_refl _) (show ObjOk X.prog X.w _ _ _ (.dK (mergeK [] kvs)) from ⟨hlen, hm, merged [] prs, KV.merge rel .nil, hd'⟩), rfl, q _ (I.hok.fresh (Nat.le_refl _))⟩
end
end Mi
end
section
/-! Mi, part 5: primitives. -/
namespace Mi
open PySem PySem.Spec PyProof.Rows L2
section
variable {K : PySem.W.Frag} {bs : Bs} {m : Nat → Addr} {n : Nat} {H : Hp} {Q : VK} {st : Store}
theorem RD.tupT {ds : List D} {v : V} (h : RD K m n H (.tup ds) v) : ∃ p vs, v = .ref p ∧ SqT K H p vs ∧ RDL K m n H ds vs := by
  unfold RD at h
  obtain ⟨p, vs, e, h1, h2⟩ := h
  refine ⟨p, vs, e, ?_, h2⟩
  exact SqT.ofT (h1.imp (fun ⟨its, z, _⟩ => ⟨its, z⟩) id)
theorem Rn.scrL {ns : List Int} {v : V} (h : Rn K m n H (.scr ns) v) : ∃ p, v = .ref p ∧ SqL K H p (ns.map V.int) := by
  have h' : RD K m n H (.scr ns) v := h
  unfold RD at h'
  obtain ⟨p, e, h1⟩ := h'
  refine ⟨p, e, ?_⟩
  rcases h1 with ⟨o, h1, _⟩ | h1
  · exact .inl (.inr ⟨o, h1⟩)
  · exact .inr h1
theorem Rn.int {i : Int} {v : V} (h : Rn K m n H (.int i) v) : v = .int i := by
  have h' : RD K m n H (.int i) v := h
  unfold RD at h'
  exact h'
theorem Rn.str {i : Str} {v : V} (h : Rn K m n H (.str i) v) : v = .str i := by
  have h' : RD K m n H (.str i) v := h
  unfold RD at h'
  exact h'
theorem Rn.bl {i : Bool} {v : V} (h : Rn K m n H (.bl i) v) : v = .bl i := by
  have h' : RD K m n H (.bl i) v := h
  unfold RD at h'
  exact h'
theorem Rn.non {v : V} (h : Rn K m n H .non v) : v = .non := by
  have h' : RD K m n H .non v := h
  unfold RD at h'
  exact h'
theorem Rn.tupT {ds : List D} {v : V} (h : Rn K m n H (.tup ds) v) : ∃ p vs, v = .ref p ∧ SqT K H p vs ∧ RDL K m n H ds vs := RD.tupT h
/-! a datum as data of the library's -/
mutual
theorem RD.dat : ∀ {d : D} {v : V} {p : PyData}, RD K m n H d v → py d = some p → p.canLay0 = true → Dp K H v p
  | .non, v, p, h, e, _ => by
    unfold RD at h; unfold py at e; cases h; cases e; exact .non
  | .bl b, v, p, h, e, _ => by
    unfold RD at h; unfold py at e; cases h; cases e; exact .bl b
  | .int i, v, p, h, e, _ => by
    unfold RD at h; unfold py at e; cases h; cases e; exact .int i
  | .str x, v, p, h, e, _ => by
    unfold RD at h; unfold py at e; cases h; cases e; exact .str x
  | .tup ds, v, p, h, e, c => by
    obtain ⟨a, vs, e1, hs, hr⟩ := RD.tupT h
    unfold py at e
    cases hl : pyL ds with
    | none => simp only [hl] at e; cases e
    | some l =>
      simp only [hl] at e
      cases e
      cases e1
      unfold PyData.canLay0 at c
      exact .tup hs (RDL.dat hr hl c)
  | .lst ds, v, p, h, e, c => by
    unfold RD at h
    obtain ⟨a, vs, e1, hs, _, hr⟩ := h
    unfold py at e
    cases hl : pyL ds with
    | none => simp only [hl] at e; cases e
    | some l =>
      simp only [hl] at e
      cases e
      cases e1
      unfold PyData.canLay0 at c
      exact .lst (SqL.of hs) (RDL.dat hr hl c)
  | .dct ks ds, v, p, h, e, c => by
    unfold py at e
    cases h1 : pyL ks with
    | none => simp only [h1] at e; cases e
    | some l1 =>
      cases h2 : pyL ds with
      | none => simp only [h1, h2] at e; cases e
      | some l2 =>
        simp only [h1, h2] at e
        cases e
        unfold PyData.canLay0 at c
        cases c
  | .loc i, v, p, h, e, _ => by unfold py at e; cases e
  | .ref i, v, p, h, e, _ => by unfold py at e; cases e
  | .ty i, v, p, h, e, _ => by unfold py at e; cases e
  | .scr i, v, p, h, e, _ => by unfold py at e; cases e
theorem RDL.dat : ∀ {ds : List D} {vs : List V} {l : List PyData}, RDL K m n H ds vs → pyL ds = some l → PyData.canLayAll0 l = true → DpAll K H vs l
  | [], vs, l, h, e, _ => by
    unfold RDL at h; unfold pyL at e; cases h; cases e; exact .nil
  | d :: ds, vs, l, h, e, c => by
    unfold RDL at h
    obtain ⟨v, r, rfl, h1, h2⟩ := h
    unfold pyL at e
    cases q1 : py d with
    | none => simp only [q1] at e; cases e
    | some a =>
      cases q2 : pyL ds with
      | none => simp only [q1, q2] at e; cases e
      | some b =>
        simp only [q1, q2] at e
        cases e
        unfold PyData.canLayAll0 at c
        rw [Bool.and_eq_true] at c
        exact .cons (RD.dat h1 q1 c.1) (RDL.dat h2 q2 c.2)
end
theorem Rn.dat {d : D} {v : V} {p : PyData} (h : Rn K m n H d v) (e : py d = some p) (c : p.canLay0 = true) : Dp K H v p := by
  cases d with
  | lst ds =>
    obtain ⟨a, vs, e1, hs, hr⟩ := h
    unfold py at e
    cases hl : pyL ds with
    | none => simp only [hl] at e; cases e
    | some l =>
      simp only [hl] at e
      cases e
      cases e1
      unfold PyData.canLay0 at c
      exact .lst (SqL.of hs) (RDL.dat hr hl c)
  | dct ks ds =>
    unfold py at e
    cases h1 : pyL ks with
    | none => simp only [h1] at e; cases e
    | some l1 =>
      cases h2 : pyL ds with
      | none => simp only [h1, h2] at e; cases e
      | some l2 =>
        simp only [h1, h2] at e
        cases e
        unfold PyData.canLay0 at c
        cases c
  | tup ds => exact RD.dat h e c
  | non => exact RD.dat h e c
  | bl _ => exact RD.dat h e c
  | int _ => exact RD.dat h e c
  | str _ => exact RD.dat h e c
  | loc _ => exact RD.dat h e c
  | ref _ => exact RD.dat h e c
  | ty _ => exact RD.dat h e c
  | scr _ => exact RD.dat h e c
theorem le_line {a b : Nat} (h : Nat.ble a b = true) (e : b = big) : a ≤ sizeLine := by
  rw [sizeLine_eq]
  subst e
  exact Nat.le_of_ble_eq_true h
theorem lt_line {a b : Nat} (h : Nat.blt a b = true) (e : b = big) : a < sizeLine := by
  rw [sizeLine_eq]
  subst e
  exact Nat.le_of_ble_eq_true h
theorem RDL.rp {ds : List D} {vs : List V} (h : RDL K m n H ds vs) : ∀ k : Nat, RDL K m n H (List.replicate k ds).flatten (List.replicate k vs).flatten
  | 0 => RDL.nil
  | k + 1 => by
    rw [List.replicate_succ, List.replicate_succ, List.flatten_cons, List.flatten_cons]
    exact RDL.app h (RDL.rp h k)
/-- a tuple that lies there -/
theorem RD.tup_new {ds : List D} {vs : List V} {its : List Value} {p : Addr} (W : Wf K bs m st H) (hp : H p = none) (h : RDL K m st.length H ds vs) : RD K m st.length (upd H p (nT its vs)) (.tup ds) (.ref p) := by
  have nep : Off m st.length p := fun i hi z => W.ne hi (z ▸ hp)
  unfold RD
  exact ⟨p, vs, rfl, .inl ⟨its, upd_same, nep⟩, h.step (Stp.new hp) _ _⟩
theorem Ok.new_tup {ds : List D} {vs : List V} (W : Wf K bs m st H) (h : RDL K m st.length H ds vs) (q : Ok K bs (RD K) m st.length H Q (.ok (.tup ds) st)) : ∀ p its, H p = none → Q (.ref p) (upd H p (nT its vs)) :=
  fun p its hp => q m _ _ (Stp.new hp) (W.new hp) (RD.tup_new W hp h)
end

theorem mul_ok {x : Str} {k : Int} (h1 : -(2 ^ 62) ≤ k) (h2 : k < 2 ^ 32) (h3 : x.length * k.toNat ≤ big) (h4 : x.length ≤ big) : MulOk x k := by
  refine ⟨?_, fun hk _ => ?_, fun hk _ => ?_⟩
  · rw [Bool.or_eq_false_iff]
    exact ⟨decide_eq_false (by omega), decide_eq_false (by omega)⟩
  · have hb : (x.length : Int) ≤ 16777216 := Int.ofNat_le.mpr h4
    have hd : (16777216 : Int) ≤ (2 ^ 63 - 1) / k := (Int.le_ediv_iff_mul_le (by omega)).mpr (by omega)
    omega
  · unfold Builtin.Str.tooLong
    exact decide_eq_false (Nat.not_lt.mpr h3)
section
variable {X : Cx} {bs : Bs} {m : Nat → Addr} {Q : VK} {st : Store}
/-- an operation on data, read by what it does -/
def rBin (K : PySem.W.Frag) (op : Operator) : R2 := fun x y H Q => ∃ bs m st d1 d2 own, Wf K bs m st H ∧ Rn K m st.length H d1 x ∧ Rn K m st.length H d2 y ∧ Ok K bs (RD K) m st.length H Q ((binD op d1 d2).fin own st)
theorem or_bin {op : Operator} : OpR X (binaryOp op) (rBin X.K op) := by
  intro pins s σ H x y v u Q I rx ry h
  obtain ⟨bs, m, st, d1, d2, own, W, h1, h2, q⟩ := h
  unfold binD at q
  split at q
  · obtain rfl := h1.int
    obtain rfl := h2.int
    refine op_add pins s σ H _ _ v u Q I rx ry ⟨_, _, rfl, rfl, q.at W ?_⟩
    unfold RD; rfl
  · obtain rfl := h1.str
    obtain rfl := h2.str
    split at q
    · rename_i hz
      refine op_add_str pins s σ H _ _ v u Q I rx ry ⟨_, _, rfl, rfl, le_line hz rfl, q.at W ?_⟩
      unfold RD; rfl
    · exact q.elim
  · obtain ⟨p1, vs1, rfl, e1, r1⟩ := h1
    obtain ⟨p2, vs2, rfl, e2, r2⟩ := h2
    obtain ⟨hz, q'⟩ := Ok.fin_new W (r1.app r2) q
    exact op_cat pins s σ H _ _ v u Q I rx ry ⟨p1, p2, vs1, vs2, rfl, rfl, e1, e2, by rw [← List.length_append]; exact hz, q'⟩
  · have g1 : RD X.K m st.length H (.tup _) x := h1
    have g2 : RD X.K m st.length H (.tup _) y := h2
    obtain ⟨p1, vs1, rfl, e1, r1⟩ := h1.tupT
    obtain ⟨p2, vs2, rfl, e2, r2⟩ := h2.tupT
    split at q
    · rename_i hf
      have hz := fits_le hf
      rw [List.length_append, r1.len, r2.len] at hz
      refine op_catN pins s σ H _ _ v u Q I rx ry ⟨p1, p2, vs1, vs2, rfl, rfl, e1, e2, hz, fun e => ?_, fun _ e => ?_, fun _ _ => Ok.new_tup W (r1.app r2) q⟩
      · have z := r1.len
        rw [e] at z
        have z2 := List.eq_nil_of_length_eq_zero z
        subst z2
        exact q.at W g2
      · have z := r2.len
        rw [e] at z
        have z2 := List.eq_nil_of_length_eq_zero z
        subst z2
        rw [List.append_nil] at q
        exact q.at W g1
    · exact q.elim
  · obtain rfl := h1.int
    obtain rfl := h2.int
    refine op_sub pins s σ H _ _ v u Q I rx ry ⟨_, _, rfl, rfl, q.at W ?_⟩
    unfold RD; rfl
  · obtain rfl := h1.int
    obtain rfl := h2.int
    split at q
    · rename_i hz
      refine op_mulW pins s σ H _ _ v u Q I rx ry ⟨_, _, rfl, rfl, Nat.le_of_ble_eq_true hz, q.at W ?_⟩
      unfold RD; rfl
    · exact q.elim
  · obtain ⟨p1, vs1, rfl, e1, r1⟩ := h1
    obtain rfl := h2.int
    split at q
    · rename_i hz
      rw [Bool.and_eq_true, Bool.and_eq_true] at hz
      obtain ⟨hz', q'⟩ := Ok.fin_new W (r1.rp _) q
      exact op_rep pins s σ H _ _ v u Q I rx ry ⟨p1, _, vs1, rfl, rfl, e1, of_decide_eq_true hz.1.1, of_decide_eq_true hz.1.2, by rw [← r1.len]; exact le_line hz.2 rfl, q'⟩
    · exact q.elim
  · obtain rfl := h1.int
    obtain rfl := h2.int
    split at q
    · rename_i hz
      unfold divOk at hz
      rw [Bool.and_eq_true] at hz
      refine op_fdivW pins s σ H _ _ v u Q I rx ry ⟨_, _, rfl, rfl, ⟨of_decide_eq_true hz.1, Nat.le_of_ble_eq_true hz.2⟩, q.at W ?_⟩
      unfold RD; rfl
    · exact q.elim
  · obtain rfl := h1.int
    obtain rfl := h2.int
    split at q
    · rename_i hz
      refine op_mod pins s σ H _ _ v u Q I rx ry ⟨_, _, rfl, rfl, of_decide_eq_true hz, q.at W ?_⟩
      unfold RD; rfl
    · exact q.elim
  · obtain rfl := h1.int
    obtain rfl := h2.int
    split at q
    · rename_i hz
      unfold powOk at hz
      rw [Bool.and_eq_true, Bool.and_eq_true] at hz
      refine op_pow pins s σ H _ _ v u Q I rx ry ⟨_, _, rfl, rfl, ⟨of_decide_eq_true hz.1.1, of_decide_eq_true hz.1.2, of_decide_eq_true hz.2⟩, q.at W ?_⟩
      unfold RD; rfl
    · exact q.elim
  · obtain rfl := h1.int
    obtain rfl := h2.int
    refine op_and pins s σ H _ _ v u Q I rx ry ⟨_, _, rfl, rfl, q.at W ?_⟩
    unfold RD; rfl
  · obtain rfl := h1.str
    obtain rfl := h2.int
    split at q
    · rename_i hz
      simp only [Bool.and_eq_true, decide_eq_true_eq] at hz
      obtain ⟨t, rfl⟩ := rx
      obtain ⟨t', rfl⟩ := ry
      refine SB.mul (mul_ok hz.1.1.1 hz.1.1.2 (Nat.le_of_ble_eq_true hz.1.2) (Nat.le_of_ble_eq_true hz.2)) fun t2 k => ⟨.str (Txt.mul _ _), H, I.tok _, ⟨_, rfl⟩, q.at W ?_⟩
      unfold RD; rfl
    · exact q.elim
  · have g1 : RD X.K m st.length H (.tup _) x := h1
    obtain ⟨p1, vs1, rfl, e1, r1⟩ := h1.tupT
    obtain rfl := h2.int
    split at q
    · rename_i ds k hz
      rw [Bool.and_eq_true, Bool.and_eq_true] at hz
      have z := r1.len
      refine op_mulA pins s σ H _ _ v u Q I rx ry ⟨p1, _, vs1, rfl, rfl, e1, by have := of_decide_eq_true hz.1.1; omega, of_decide_eq_true hz.1.2, by rw [← z]; exact Nat.le_of_ble_eq_true hz.2, fun e => ?_, fun e => ?_⟩
      · have e' : rep k.toNat ds = ds := by
          rcases e with e | e
          · rw [e] at z
            have z2 := List.eq_nil_of_length_eq_zero z
            rw [z2]
            unfold rep
            induction k.toNat with
            | zero => rfl
            | succ j ih => rw [List.replicate_succ, List.flatten_cons, ih]; rfl
          · rw [e]
            show ds ++ [] = ds
            exact List.append_nil _
        rw [e'] at q
        exact q.at W g1
      · exact Ok.new_tup W (r1.rp k.toNat) q
    · exact q.elim
  · exact q.elim
theorem eqP_dat {K : PySem.W.Frag} {n : Nat} {H : Hp} {d1 d2 : D} {x y : V} {c : Bool} (h1 : Rn K m n H d1 x) (h2 : Rn K m n H d2 y) (e : eqP d1 d2 = some c) :
    ∃ a b, Dp K H x a ∧ Dp K H y b ∧ SeqAt.shaped a = true ∧ SeqAt.shaped b = true ∧ c = PyData.eqv a b := by
  unfold eqP at e
  cases q1 : py d1 with
  | none => simp only [q1] at e; cases e
  | some a =>
    cases q2 : py d2 with
    | none => simp only [q1, q2] at e; cases e
    | some b =>
      simp only [q1, q2] at e
      split at e
      · rename_i hs
        cases e
        rw [Bool.and_eq_true] at hs
        exact ⟨a, b, h1.dat q1 (SeqAt.canLay_of_shaped hs.1), h2.dat q2 (SeqAt.canLay_of_shaped hs.2), hs.1, hs.2, rfl⟩
      · cases e
/-- the values of lists of numbers and texts, compared -/
inductive FlatV : List V → List V → Bool → Prop
  | nil : FlatV [] [] true
  | int (i j : Int) {us vs : List V} {c : Bool} (h : FlatV us vs c) : FlatV (.int i :: us) (.int j :: vs) (decide (i = j) && c)
  | str (i j : Str) {us vs : List V} {c : Bool} (h : FlatV us vs c) : FlatV (.str i :: us) (.str j :: vs) (decide (i = j) && c)
theorem flat_of {K : PySem.W.Frag} {n : Nat} {H : Hp} : ∀ {xs ys : List D} {us vs : List V} {c : Bool}, RDL K m n H xs us → RDL K m n H ys vs → eqFlat xs ys = some c → FlatV us vs c
  | [], [], us, vs, c, r1, r2, e => by
    cases e
    rw [r1.zeroV, r2.zeroV]
    exact .nil
  | x :: xs, y :: ys, us, vs, c, r1, r2, e => by
    unfold RDL at r1 r2
    obtain ⟨v, us', rfl, a1, a2⟩ := r1
    obtain ⟨w, vs', rfl, b1, b2⟩ := r2
    unfold eqFlat at e
    split at e
    · rename_i h1 h2
      cases h1
    · rename_i h1 h2
      cases h1
      cases h2
      split at e
      · rename_i c' hc
        cases e
        unfold RD at a1 b1
        subst a1 b1
        exact .int _ _ (flat_of a2 b2 hc)
      · cases e
    · rename_i h1 h2
      cases h1
      cases h2
      split at e
      · rename_i c' hc
        cases e
        unfold RD at a1 b1
        subst a1 b1
        exact .str _ _ (flat_of a2 b2 hc)
      · cases e
    · cases e
  | [], y :: ys, us, vs, c, r1, r2, e => by cases e
  | x :: xs, [], us, vs, c, r1, r2, e => by
    unfold eqFlat at e
    split at e
    · rename_i h1 h2
      cases h1
    · rename_i h1 h2
      cases h2
    · rename_i h1 h2
      cases h2
    · cases e
/-- item by item -/
def eqV1 (us vs : List V) (j : Nat) : Bool := match us[j]?, vs[j]? with
  | some (.int a), some (.int b) => decide (a = b)
  | some (.str a), some (.str b) => decide (a = b)
  | _, _ => true
theorem flat_len : ∀ {us vs : List V} {c : Bool}, FlatV us vs c → us.length = vs.length
  | _, _, _, .nil => rfl
  | _, _, _, .int _ _ h => congrArg (· + 1) (flat_len h)
  | _, _, _, .str _ _ h => congrArg (· + 1) (flat_len h)
theorem flat_all : ∀ {us vs : List V} {c : Bool}, FlatV us vs c → (List.range us.length).all (eqV1 us vs) = c
  | _, _, _, .nil => rfl
  | _, _, _, .int i j (us := us) (vs := vs) h => by
    rw [List.length_cons, List.range_succ_eq_map, List.all_cons, List.all_map]
    have e : (eqV1 (.int i :: us) (.int j :: vs)) ∘ Nat.succ = eqV1 us vs := by
      funext k
      unfold eqV1
      simp
    rw [e, flat_all h]
    rfl
  | _, _, _, .str i j (us := us) (vs := vs) h => by
    rw [List.length_cons, List.range_succ_eq_map, List.all_cons, List.all_map]
    have e : (eqV1 (.str i :: us) (.str j :: vs)) ∘ Nat.succ = eqV1 us vs := by
      funext k
      unfold eqV1
      simp
    rw [e, flat_all h]
    rfl
theorem flat_at : ∀ {us vs : List V} {c : Bool}, FlatV us vs c → ∀ {its its2 : List Value}, Vals us its → Vals vs its2 → ∀ (A : Around) (s : Shared) (j : Nat) (h1 : j < its.length) (h2 : j < its2.length), SeqAt.EqAt A s its[j] its2[j] (eqV1 us vs j)
  | _, _, _, .nil, its, its2, r1, r2, A, s, j, h1, h2 => by
    cases r1
    cases h1
  | _, _, _, .int a b h, its, its2, r1, r2, A, s, j, h1, h2 => by
    cases r1 with
    | cons x1 t1 =>
      cases r2 with
      | cons x2 t2 =>
        cases j with
        | zero =>
          obtain ⟨t, rfl⟩ := x1
          obtain ⟨t', rfl⟩ := x2
          have e := SeqAt.EqAt.int_int (A := A) (s := s) a t b t'
          rw [show (a == b) = decide (a = b) from rfl] at e
          exact e
        | succ j => exact flat_at h t1 t2 A s j (by simpa using h1) (by simpa using h2)
  | _, _, _, .str a b h, its, its2, r1, r2, A, s, j, h1, h2 => by
    cases r1 with
    | cons x1 t1 =>
      cases r2 with
      | cons x2 t2 =>
        cases j with
        | zero =>
          obtain ⟨t, rfl⟩ := x1
          obtain ⟨t', rfl⟩ := x2
          have e := SeqAt.EqAt.str_str (A := A) (s := s) a t b t'
          have e2 : (a == b) = decide (a = b) := by
            by_cases q : a = b
            · rw [q]
              simp
            · rw [decide_eq_false q]
              exact beq_eq_false_iff_ne.mpr q
          rw [e2] at e
          exact e
        | succ j => exact flat_at h t1 t2 A s j (by simpa using h1) (by simpa using h2)
theorem isEmpty_len {α : Type} (xs : List α) : xs.isEmpty = decide (xs.length = 0) := by
  cases xs <;> simp
theorem eqD_dat {K : PySem.W.Frag} {n : Nat} {H : Hp} {d1 d2 : D} {x y : V} {c : Bool} (h1 : Rn K m n H d1 x) (h2 : Rn K m n H d2 y) (e : eqD d1 d2 = some c) :
    (∃ i j, x = .int i ∧ y = .int j ∧ c = decide (i = j)) ∨ (∃ i j, x = .str i ∧ y = .str j ∧ c = decide (i = j)) ∨ (∃ p q us vs, x = .ref p ∧ y = .ref q ∧ SqL K H p us ∧ SqL K H q vs ∧ us.length ≠ vs.length ∧ c = false) ∨ (∃ p q us vs, x = .ref p ∧ y = .ref q ∧ SqL K H p us ∧ SqL K H q vs ∧ FlatV us vs c) ∨ (∃ p q us, x = .ref p ∧ y = .ref q ∧ SqT K H p us ∧ SqT K H q [] ∧ c = us.isEmpty) ∨
      ∃ a b, Dp K H x a ∧ Dp K H y b ∧ SeqAt.shaped a = true ∧ SeqAt.shaped b = true ∧ c = PyData.eqv a b := by
  unfold eqD at e
  split at e
  · cases e
    exact .inl ⟨_, _, h1.int, h2.int, rfl⟩
  · cases e
    exact .inr (.inl ⟨_, _, h1.str, h2.str, rfl⟩)
  · split at e
    · split at e
      · rename_i k hk
        cases e
        obtain ⟨p, us, rfl, e1, r1⟩ := h1
        obtain ⟨q, vs, rfl, e2, r2⟩ := h2
        exact .inr (.inr (.inr (.inl ⟨p, q, us, vs, rfl, rfl, SqL.of e1, SqL.of e2, flat_of r1 r2 hk⟩)))
      · exact .inr (.inr (.inr (.inr (.inr (eqP_dat h1 h2 e)))))
    · rename_i hn
      cases e
      obtain ⟨p, us, rfl, e1, r1⟩ := h1
      obtain ⟨q, vs, rfl, e2, r2⟩ := h2
      exact .inr (.inr (.inl ⟨p, q, us, vs, rfl, rfl, SqL.of e1, SqL.of e2, by rw [← r1.len, ← r2.len]; exact hn, rfl⟩))
  · cases e
    obtain ⟨p, us, rfl, e1, r1⟩ := h1.tupT
    obtain ⟨q, vs, rfl, e2, r2⟩ := h2.tupT
    have z := r2.zeroV
    subst z
    refine .inr (.inr (.inr (.inr (.inl ⟨p, q, us, rfl, rfl, e1, e2, ?_⟩))))
    rw [isEmpty_len, isEmpty_len, r1.len]
  · exact .inr (.inr (.inr (.inr (.inr (eqP_dat h1 h2 e)))))
theorem or_eqD {n : Nat} {pins : List (Addr × Obj)} {s : Shared} {σ : L2.St} {H : Hp} {x y : V} {v u : Value} {d1 d2 : D} {c : Bool} (hu : X.A.units + 64 < cLine) (I : Inv X pins σ H s) (rx : RelV x v) (ry : RelV y u)
    (h1 : Rn X.K m n H d1 x) (h2 : Rn X.K m n H d2 y) (e : eqD d1 d2 = some c) (q : Q (.bl c) H) : wpAny (model X.prog X.w) X.A (compareOp .Eq v u) (EP X pins σ Q) X.xe s := by
  rcases eqD_dat h1 h2 e with ⟨i, j, rfl, rfl, rfl⟩ | ⟨i, j, rfl, rfl, rfl⟩ | ⟨p, p', us, vs, rfl, rfl, g1, g2, g3, rfl⟩ | ⟨p, p', us, vs, rfl, rfl, g1, g2, g3⟩ | ⟨p, p', us, rfl, rfl, g1, g2, rfl⟩ | ⟨a, b, g1, g2, g3, g4, rfl⟩
  · exact op_eq pins s σ H _ _ v u Q I rx ry ⟨rfl, by rw [show decide (V.int i = V.int j) = decide (i = j) by simp]; exact q⟩
  · exact op_eq pins s σ H _ _ v u Q I rx ry ⟨rfl, by rw [show decide (V.str i = V.str j) = decide (i = j) by simp]; exact q⟩
  · cases rx
    cases ry
    obtain ⟨its, r1, p1, _⟩ := I.list g1
    obtain ⟨its2, r2, p2, _⟩ := I.list g2
    have k1 := r1.length
    have k2 := r2.length
    exact SeqAt.eq_list_lengthsAt p1.isList p2.isList (by rw [bne_iff_ne, List.size_toArray, List.size_toArray]; omega) (by omega) ⟨.bl false, H, I, rfl, q⟩
  · cases rx
    cases ry
    obtain ⟨its, r1, p1, _⟩ := I.list g1
    obtain ⟨its2, r2, p2, _⟩ := I.list g2
    have k0 := flat_len g3
    have k1 := r1.length
    have k2 := r2.length
    refine SeqAt.eq_listAt (e := eqV1 us vs) p1.isList p2.isList (by rw [List.size_toArray, List.size_toArray]; omega) (by omega) (fun j h1 h2 => ?_) ⟨.bl c, H, I, ?_, q⟩
    · have e := flat_at g3 r1 r2 X.A.in1 s j (by simpa using h1) (by simpa using h2)
      simpa using e
    · rw [List.size_toArray, ← k1, flat_all g3]
      rfl
  · cases rx
    cases ry
    obtain ⟨its, r1, p1, _⟩ := I.tuple g1
    obtain ⟨its2, r2, p2, _⟩ := I.tuple g2
    cases r2
    have k1 := r1.length
    refine SeqAt.eq_tupleAt (e := fun _ => true) p1 p2 (by omega) (fun j h1 h2 => by simp at h2) ⟨.bl us.isEmpty, H, I, ?_, q⟩
    show Value.bool _ = Value.bool _
    simp only [List.size_toArray, List.length_nil, Nat.min_zero, List.range_zero, List.all_nil, Bool.true_and, ← k1, isEmpty_len]
    rfl
  · exact op_eqD hu pins s σ H _ _ v u Q I rx ry ⟨a, b, g1, g2, g3, g4, q⟩
theorem or_neD {n : Nat} {pins : List (Addr × Obj)} {s : Shared} {σ : L2.St} {H : Hp} {x y : V} {v u : Value} {d1 d2 : D} {c : Bool} (hu : X.A.units + 64 < cLine) (I : Inv X pins σ H s) (rx : RelV x v) (ry : RelV y u)
    (h1 : Rn X.K m n H d1 x) (h2 : Rn X.K m n H d2 y) (e : eqD d1 d2 = some c) (q : Q (.bl (!c)) H) : wpAny (model X.prog X.w) X.A (compareOp .NotEq v u) (EP X pins σ Q) X.xe s := by
  rcases eqD_dat h1 h2 e with ⟨i, j, rfl, rfl, rfl⟩ | ⟨i, j, rfl, rfl, rfl⟩ | ⟨p, p', us, vs, rfl, rfl, g1, g2, g3, rfl⟩ | ⟨p, p', us, vs, rfl, rfl, g1, g2, g3⟩ | ⟨p, p', us, rfl, rfl, g1, g2, rfl⟩ | ⟨a, b, g1, g2, g3, g4, rfl⟩
  · exact op_ne pins s σ H _ _ v u Q I rx ry ⟨rfl, by rw [show decide (V.int i = V.int j) = decide (i = j) by simp]; exact q⟩
  · exact op_ne pins s σ H _ _ v u Q I rx ry ⟨rfl, by rw [show decide (V.str i = V.str j) = decide (i = j) by simp]; exact q⟩
  · cases rx
    cases ry
    obtain ⟨its, r1, p1, _⟩ := I.list g1
    obtain ⟨its2, r2, p2, _⟩ := I.list g2
    have k1 := r1.length
    have k2 := r2.length
    exact SeqAt.RcNeAt.lists_lengths p1.isList p2.isList (by rw [bne_iff_ne, List.size_toArray, List.size_toArray]; omega) (by omega) X.prog X.w X.xe _ ⟨.bl true, H, I, rfl, q⟩
  · cases rx
    cases ry
    obtain ⟨its, r1, p1, _⟩ := I.list g1
    obtain ⟨its2, r2, p2, _⟩ := I.list g2
    have k0 := flat_len g3
    have k1 := r1.length
    have k2 := r2.length
    refine SeqAt.RcNeAt.lists (e := eqV1 us vs) p1.isList p2.isList (by rw [List.size_toArray, List.size_toArray]; omega) (by omega) (fun j h1 h2 => ?_) X.prog X.w X.xe _ ⟨.bl (!c), H, I, ?_, q⟩
    · have e := flat_at g3 r1 r2 X.A.in1 s j (by simpa using h1) (by simpa using h2)
      simpa using e
    · rw [List.size_toArray, ← k1, flat_all g3]
      rfl
  · cases rx
    cases ry
    obtain ⟨its, r1, p1, _⟩ := I.tuple g1
    obtain ⟨its2, r2, p2, _⟩ := I.tuple g2
    cases r2
    have k1 := r1.length
    refine SeqAt.RcNeAt.tuples (e := fun _ => true) p1 p2 (by omega) (fun j h1 h2 => by simp at h2) X.prog X.w X.xe _ ⟨.bl (!us.isEmpty), H, I, ?_, q⟩
    show Value.bool _ = Value.bool _
    simp only [List.size_toArray, List.length_nil, Nat.min_zero, List.range_zero, List.all_nil, Bool.true_and, ← k1, isEmpty_len]
    rfl
  · exact op_neD hu pins s σ H _ _ v u Q I rx ry ⟨a, b, g1, g2, g3, g4, q⟩
theorem keyOf_some {d : D} {k : Key} (h : keyOf d = some k) : d = ofKey k := by
  unfold keyOf at h
  split at h <;> first | (cases h; rfl) | cases h
theorem Rn.key {K : PySem.W.Frag} {n : Nat} {H : Hp} {d : D} {v : V} {k : Key} (h : Rn K m n H d v) (e : keyOf d = some k) : v = kV k := by
  have e2 := keyOf_some e
  subst e2
  cases k with
  | inl i => exact Rn.int h
  | inr x => exact Rn.str h
theorem keq_key (a k : Key) : keq (ofKey a) (ofKey k) = decide (a = k) := by
  cases a <;> cases k <;> simp [keq, ofKey]
theorem hasK_any (k : Key) (kk : List Key) : hasK (ofKey k) (kk.map ofKey) = kk.any fun a => decide (a = k) := by
  unfold hasK
  induction kk with
  | nil => rfl
  | cons a r ih => rw [List.map_cons, List.any_cons, List.any_cons, ih, keq_key]
theorem zip_any (k : Key) : ∀ (kk : List Key) (vs : List V), kk.length = vs.length → ((kk.zip vs).any fun kv => decide (kv.1 = k)) = kk.any fun a => decide (a = k)
  | [], _, _ => rfl
  | a :: r, [], h => by cases h
  | a :: r, v :: vs, h => by
    rw [List.zip_cons_cons, List.any_cons, List.any_cons, zip_any k r vs (Nat.succ.inj h)]
theorem getK_val {K : PySem.W.Frag} {n : Nat} {H : Hp} (k : Key) : ∀ {kk : List Key} {vs : List V} {ds : List D}, RDL K m n H ds vs → kk.length = vs.length →
    (getK (ofKey k) (kk.map ofKey) ds = none ∧ valV (kk.zip vs) k = none) ∨ ∃ d v, getK (ofKey k) (kk.map ofKey) ds = some d ∧ valV (kk.zip vs) k = some v ∧ RD K m n H d v
  | [], vs, ds, h, hl => .inl ⟨by cases ds <;> rfl, rfl⟩
  | a :: kk, [], ds, h, hl => by cases hl
  | a :: kk, v :: vs, [], h, hl => by
    unfold RDL at h
    cases h
  | a :: kk, v :: vs, d :: ds, h, hl => by
    unfold RDL at h
    obtain ⟨v', r', e, h1, h2⟩ := h
    cases e
    rw [List.map_cons, List.zip_cons_cons]
    by_cases e : a = k
    · refine .inr ⟨d, v, ?_, ?_, h1⟩
      · show (if keq (ofKey a) (ofKey k) then some d else _) = _
        rw [keq_key, decide_eq_true e]; rfl
      · exact valV_pos (p := (a, v)) e
    · have e1 : getK (ofKey k) (ofKey a :: kk.map ofKey) (d :: ds) = getK (ofKey k) (kk.map ofKey) ds := by
        show (if keq (ofKey a) (ofKey k) then some d else _) = _
        rw [keq_key, decide_eq_false e]; rfl
      have e2 : valV ((a, v) :: kk.zip vs) k = valV (kk.zip vs) k := valV_neg (p := (a, v)) e
      rw [e1, e2]
      exact getK_val k h2 (Nat.succ.inj hl)
theorem Rn.dget {K : PySem.W.Frag} {n : Nat} {H : Hp} {ks ds : List D} {k : D} {x y : V} {kk : Key} (h1 : Rn K m n H (.dct ks ds) x) (h2 : Rn K m n H k y) (e : keyOf k = some kk) :
    ∃ (a : Addr) (o : Option V), x = .ref a ∧ DGet H a y o ∧ hasK k ks = o.isSome ∧ ((getK k ks ds = none ∧ o = none) ∨ ∃ d v, getK k ks ds = some d ∧ o = some v ∧ RD K m n H d v) := by
  obtain ⟨a, k2, vs, rfl, e1, e2, rfl, e4⟩ := h1
  have ey := h2.key e
  have ek := keyOf_some e
  subst ek
  subst ey
  refine ⟨a, valV (k2.zip vs) kk, rfl, .inl ⟨_, kk, e1, rfl, rfl⟩, ?_, getK_val kk e4 e2⟩
  rw [hasK_any, ← zip_any kk k2 vs e2, valV_any]
theorem or_inD {n : Nat} {pins : List (Addr × Obj)} {s : Shared} {σ : L2.St} {H : Hp} {x y : V} {v u : Value} {d1 d2 : D} {c : Bool} (hu : X.A.units + 65 < cLine) (I : Inv X pins σ H s) (rx : RelV x v) (ry : RelV y u)
    (h1 : Rn X.K m n H d1 x) (h2 : Rn X.K m n H d2 y) (e : inD d1 d2 = some c) (q : Q (.bl c) H) : wpAny (model X.prog X.w) X.A (compareOp .In v u) (EP X pins σ Q) X.xe s := by
  unfold inD at e
  split at e
  · split at e
    · cases e
      obtain rfl := h1.str
      obtain rfl := h2.str
      exact op_in_str pins s σ H _ _ v u Q I rx ry ⟨_, _, rfl, rfl, q⟩
    · cases e
  · rename_i ys
    cases q1 : py d1 with
    | none => simp only [q1] at e; cases e
    | some a =>
      cases q2 : pyL ys with
      | none => simp only [q1, q2] at e; cases e
      | some b =>
        simp only [q1, q2] at e
        split at e
        · rename_i hs
          cases e
          rw [Bool.and_eq_true] at hs
          refine op_inD hu pins s σ H _ _ v u Q I rx ry ⟨a, b, h1.dat q1 (SeqAt.canLay_of_shaped hs.1), h2.dat ?_ (SeqAt.canLay_of_shaped hs.2), hs.1, hs.2, q⟩
          unfold py
          simp only [q2]
        · cases e
  · split at e
    · rename_i kk hk
      cases e
      obtain ⟨a, o, rfl, g, e1, _⟩ := Rn.dget h2 h1 hk
      obtain rfl : u = Value.ref a := ry
      exact d_in (by omega) I g rx fun s' I' => ⟨.bl _, H, I', rfl, by rw [← e1]; exact q⟩
    · cases e
  · cases e
theorem or_ninD {n : Nat} {pins : List (Addr × Obj)} {s : Shared} {σ : L2.St} {H : Hp} {x y : V} {v u : Value} {d1 d2 : D} {c : Bool} (hu : X.A.units + 65 < cLine) (I : Inv X pins σ H s) (rx : RelV x v) (ry : RelV y u)
    (h1 : Rn X.K m n H d1 x) (h2 : Rn X.K m n H d2 y) (e : inD d1 d2 = some c) (q : Q (.bl (!c)) H) : wpAny (model X.prog X.w) X.A (compareOp .NotIn v u) (EP X pins σ Q) X.xe s := by
  unfold inD at e
  split at e
  · split at e
    · cases e
      obtain rfl := h1.str
      obtain rfl := h2.str
      exact op_notin_str pins s σ H _ _ v u Q I rx ry ⟨_, _, rfl, rfl, q⟩
    · cases e
  · rename_i ys
    cases q1 : py d1 with
    | none => simp only [q1] at e; cases e
    | some a =>
      cases q2 : pyL ys with
      | none => simp only [q1, q2] at e; cases e
      | some b =>
        simp only [q1, q2] at e
        split at e
        · rename_i hs
          cases e
          rw [Bool.and_eq_true] at hs
          refine op_notInD hu pins s σ H _ _ v u Q I rx ry ⟨a, b, h1.dat q1 (SeqAt.canLay_of_shaped hs.1), h2.dat ?_ (SeqAt.canLay_of_shaped hs.2), hs.1, hs.2, q⟩
          unfold py
          simp only [q2]
        · cases e
  · split at e
    · rename_i kk hk
      cases e
      obtain ⟨a, o, rfl, g, e1, _⟩ := Rn.dget h2 h1 hk
      obtain rfl : u = Value.ref a := ry
      exact d_notIn (by omega) I g rx fun s' I' => ⟨.bl _, H, I', rfl, by rw [← e1]; exact q⟩
    · cases e
  · cases e
theorem Rn.isNon {K : PySem.W.Frag} {n : Nat} {H : Hp} {d : D} {v : V} (h : Rn K m n H d v) : decide (v = .non) = Mi.isNon d := by
  cases d with
  | non => rw [h.non]; rfl
  | bl _ => rw [h.bl]; rfl
  | int _ => rw [h.int]; rfl
  | str _ => rw [h.str]; rfl
  | tup _ => obtain ⟨p, _, rfl, _⟩ := h.tupT; rfl
  | lst _ => obtain ⟨p, _, rfl, _⟩ := h; rfl
  | dct _ _ => obtain ⟨p, _, _, rfl, _⟩ := h; rfl
  | scr _ => obtain ⟨p, rfl, _⟩ := h.scrL; rfl
  | loc _ =>
    have h' : RD K m n H (.loc _) v := h
    unfold RD at h'
    rw [h'.2]; rfl
  | ref _ =>
    have h' : RD K m n H (.ref _) v := h
    unfold RD at h'
    rw [h']; rfl
  | ty _ =>
    have h' : RD K m n H (.ty _) v := h
    unfold RD at h'
    rw [h']; rfl
/-- a comparison, by data -/
theorem or_cmp {op : CmpOp} {n : Nat} {pins : List (Addr × Obj)} {s : Shared} {σ : L2.St} {H : Hp} {x y : V} {v u : Value} {d1 d2 : D} {c : Bool} (hu : X.A.units + 65 < cLine) (I : Inv X pins σ H s) (rx : RelV x v) (ry : RelV y u)
    (h1 : Rn X.K m n H d1 x) (h2 : Rn X.K m n H d2 y) (e : cmpD op d1 d2 = some c) (q : Q (.bl c) H) : wpAny (model X.prog X.w) X.A (compareOp op v u) (EP X pins σ Q) X.xe s := by
  unfold cmpD at e
  split at e
  · exact or_eqD (by omega) I rx ry h1 h2 e q
  · cases q1 : eqD d1 d2 with
    | none => rw [q1] at e; cases e
    | some b =>
      rw [q1] at e
      cases e
      exact or_neD (by omega) I rx ry h1 h2 q1 q
  · split at e
    · cases e
      obtain rfl := h1.int
      obtain rfl := h2.int
      exact op_lt pins s σ H _ _ v u Q I rx ry ⟨_, _, rfl, rfl, q⟩
    · cases e
      obtain rfl := h1.str
      obtain rfl := h2.str
      exact op_lt_str pins s σ H _ _ v u Q I rx ry ⟨_, _, rfl, rfl, q⟩
    · cases e
  · split at e
    · cases e
      obtain rfl := h1.int
      obtain rfl := h2.int
      exact op_le pins s σ H _ _ v u Q I rx ry ⟨_, _, rfl, rfl, q⟩
    · cases e
      obtain rfl := h1.str
      obtain rfl := h2.str
      exact op_le_str pins s σ H _ _ v u Q I rx ry ⟨_, _, rfl, rfl, q⟩
    · cases e
  · split at e
    · cases e
      obtain rfl := h1.int
      obtain rfl := h2.int
      exact op_gt pins s σ H _ _ v u Q I rx ry ⟨_, _, rfl, rfl, q⟩
    · cases e
  · split at e
    · cases e
      obtain rfl := h1.int
      obtain rfl := h2.int
      exact op_ge pins s σ H _ _ v u Q I rx ry ⟨_, _, rfl, rfl, q⟩
    · cases e
  · exact or_inD hu I rx ry h1 h2 e q
  · cases q1 : inD d1 d2 with
    | none => rw [q1] at e; cases e
    | some b =>
      rw [q1] at e
      cases e
      exact or_ninD hu I rx ry h1 h2 q1 q
  · unfold isD at e
    split at e
    · cases e
      obtain rfl := h1.bl
      obtain rfl := h2.bl
      exact op_is_bl pins s σ H _ _ v u Q I rx ry ⟨_, _, rfl, rfl, q⟩
    · split at e
      · rename_i hn
        cases e
        have hy : y = .non := by
          have z := h2.isNon
          rw [hn] at z
          exact of_decide_eq_true z
        subst hy
        exact op_isN pins s σ H _ _ v u Q I rx ry ⟨rfl, by rw [h1.isNon]; exact q⟩
      · cases e
  · cases e' : isD d1 d2 with
    | none => rw [e'] at e; cases e
    | some b =>
      rw [e'] at e
      cases e
      unfold isD at e'
      split at e'
      · cases e'
        obtain rfl := h1.bl
        obtain rfl := h2.bl
        exact op_isnot_bl pins s σ H _ _ v u Q I rx ry ⟨_, _, rfl, rfl, q⟩
      · split at e'
        · rename_i hn
          cases e'
          have hy : y = .non := by
            have z := h2.isNon
            rw [hn] at z
            exact of_decide_eq_true z
          subst hy
          exact op_notN pins s σ H _ _ v u Q I rx ry ⟨rfl, by rw [h1.isNon]; exact q⟩
        · cases e'
theorem Rn.tru {K : PySem.W.Frag} {n : Nat} {H : Hp} {d : D} {v : V} {c : Bool} (h : Rn K m n H d v) (e : truD d = some c) : TruV K v H c := by
  unfold truD at e
  split at e
  · cases e; rw [h.non]; rfl
  · cases e; rw [h.bl]; rfl
  · cases e; rw [h.int]; rfl
  · split at e
    · rename_i hz
      cases e
      rw [h.str]
      exact ⟨le_line hz rfl, rfl⟩
    · cases e
  · cases e
    obtain ⟨p, vs, rfl, e1, r1⟩ := h.tupT
    refine .inr (.inl ⟨vs, e1, ?_⟩)
    have z := r1.len
    cases vs <;> cases ‹List D› <;> first | rfl | cases z
  · cases e
    obtain ⟨p, vs, rfl, e1, r1⟩ := h
    refine .inl ⟨vs, SqL.of e1, ?_⟩
    have z := r1.len
    cases vs <;> cases ‹List D› <;> first | rfl | cases z
  · cases e
end
section
theorem put_zip (k : Key) (v : V) : ∀ (kk : List Key) (vs : List V), kk.length = vs.length → (kk.zip vs).map (fun kv => if kv.1 = k then (kv.1, v) else kv) = kk.zip (putA (fun a => decide (a = k)) v kk vs)
  | [], _, _ => rfl
  | a :: kk, [], h => by cases h
  | a :: kk, w :: vs, h => by
    have ih := put_zip k v kk vs (Nat.succ.inj h)
    show (if a = k then (a, v) else (a, w)) :: (kk.zip vs).map _ = (a, if decide (a = k) = true then v else w) :: kk.zip (putA _ v kk vs)
    rw [ih]
    by_cases e : a = k
    · rw [if_pos e, if_pos (decide_eq_true e)]
    · rw [if_neg e, if_neg (by rw [decide_eq_false e]; exact Bool.false_ne_true)]
theorem putA_len {α β : Type} (p : β → Bool) (v : α) : ∀ (bs : List β) (as : List α), (putA p v bs as).length = as.length
  | [], as => by cases as <;> rfl
  | _ :: _, [] => rfl
  | b :: bs, a :: as => by
    show (putA p v bs as).length + 1 = as.length + 1
    rw [putA_len p v bs as]
theorem RDL.putK {K : PySem.W.Frag} {m : Nat → Addr} {n : Nat} {H : Hp} {d : D} {v : V} (k : Key) (h : RD K m n H d v) : ∀ (kk : List Key) (ds : List D) (vs : List V), RDL K m n H ds vs → RDL K m n H (putA (fun a => keq a (ofKey k)) d (kk.map ofKey) ds) (putA (fun a => decide (a = k)) v kk vs)
  | [], ds, vs, r => by
    have e1 : putA (fun a => keq a (ofKey k)) d (([] : List Key).map ofKey) ds = ds := by cases ds <;> rfl
    have e2 : putA (fun a => decide (a = k)) v [] vs = vs := by cases vs <;> rfl
    rw [e1, e2]
    exact r
  | a :: kk, [], vs, r => by
    have e := r.zeroV
    subst e
    exact RDL.nil
  | a :: kk, x :: ds, vs, r => by
    unfold RDL at r
    obtain ⟨w, vs', rfl, r1, r2⟩ := r
    have ih := RDL.putK k h kk ds vs' r2
    show RDL K m n H ((if keq (ofKey a) (ofKey k) = true then d else x) :: putA _ d (kk.map ofKey) ds) ((if decide (a = k) = true then v else w) :: putA _ v kk vs')
    rw [keq_key]
    refine RDL.cons ?_ ih
    by_cases e : a = k
    · rw [if_pos (decide_eq_true e), if_pos (decide_eq_true e)]
      exact h
    · rw [if_neg (by rw [decide_eq_false e]; exact Bool.false_ne_true), if_neg (by rw [decide_eq_false e]; exact Bool.false_ne_true)]
      exact r1
theorem mrg_ok {K : PySem.W.Frag} {m : Nat → Addr} {n : Nat} {H : Hp} : ∀ {l : List (D × D)} {kvs : List (Key × V)}, Paired (fun p kv => p.1 = ofKey kv.1 ∧ RD K m n H p.2 kv.2) l kvs → ∀ {kk : List Key} {ds : List D} {vs : List V}, RDL K m n H ds vs → kk.length = vs.length →
    ∃ (kk' : List Key) (vs' : List V), mergeK (kk.zip vs) kvs = kk'.zip vs' ∧ kk'.length = vs'.length ∧ (mrgD l (kk.map ofKey) ds).1 = kk'.map ofKey ∧ RDL K m n H (mrgD l (kk.map ofKey) ds).2 vs'
  | _, _, .nil, kk, ds, vs, r, hl => ⟨kk, vs, rfl, hl, rfl, r⟩
  | (d, e) :: l, (k, v) :: kvs, .cons h t, kk, ds, vs, r, hl => by
    obtain ⟨h1, h2⟩ := h
    replace h1 : d = ofKey k := h1
    subst h1
    replace h2 : RD K m n H e v := h2
    have go : mergeK (kk.zip vs) ((k, v) :: kvs) = mergeK (putK (kk.zip vs) k v) kvs := rfl
    have gd : mrgD ((ofKey k, e) :: l) (kk.map ofKey) ds = mrgD l (Mi.putD (ofKey k) e (kk.map ofKey) ds).1 (Mi.putD (ofKey k) e (kk.map ofKey) ds).2 := rfl
    rw [go, gd]
    by_cases hh : (kk.any fun a => decide (a = k)) = true
    · have e1 : putK (kk.zip vs) k v = kk.zip (putA (fun a => decide (a = k)) v kk vs) := by
        unfold L2.putK
        rw [zip_any k kk vs hl, if_pos hh, put_zip k v kk vs hl]
      have e2 : Mi.putD (ofKey k) e (kk.map ofKey) ds = (kk.map ofKey, putA (fun a => keq a (ofKey k)) e (kk.map ofKey) ds) := by
        unfold Mi.putD
        rw [hasK_any, if_pos hh]
      rw [e1, e2]
      exact mrg_ok t (RDL.putK k h2 kk ds vs r) (by rw [putA_len]; exact hl)
    · have e1 : putK (kk.zip vs) k v = (kk ++ [k]).zip (vs ++ [v]) := by
        unfold L2.putK
        rw [zip_any k kk vs hl, if_neg hh, List.zip_append hl]
        rfl
      have e2 : Mi.putD (ofKey k) e (kk.map ofKey) ds = ((kk ++ [k]).map ofKey, ds ++ [e]) := by
        unfold Mi.putD
        rw [hasK_any, if_neg hh, List.map_append]
        rfl
      rw [e1, e2]
      exact mrg_ok t (r.app (RDL.cons h2 RDL.nil)) (by rw [List.length_append, List.length_append, hl]; rfl)
theorem pairs_ok {K : PySem.W.Frag} {m : Nat → Addr} {n : Nat} {H : Hp} : ∀ {xs : List D} {l : List (D × D)} {vs : List V}, RDL K m n H xs vs → pairsD xs = some l →
    ∃ (ps : List Addr) (kvs : List (Key × V)), vs = ps.map V.ref ∧ Paired (fun p kv => SqT K H p [kV kv.1, kv.2]) ps kvs ∧ Paired (fun p kv => p.1 = ofKey kv.1 ∧ RD K m n H p.2 kv.2) l kvs
  | [], l, vs, r, e => by
    cases e
    have := r.zeroV
    subst this
    exact ⟨[], [], rfl, .nil, .nil⟩
  | x :: xs, l, vs, r, e => by
    unfold RDL at r
    obtain ⟨v, vs', rfl, r1, r2⟩ := r
    unfold pairsD at e
    split at e
    · rename_i e0
      cases e0
    · rename_i k w r' e0
      cases e0
      split at e
      · rename_i kx l' hk hl'
        cases e
        obtain ⟨ps, kvs, rfl, q1, q2⟩ := pairs_ok r2 hl'
        obtain ⟨p, ws, rfl, t1, t2⟩ := r1.tupT
        obtain ⟨a, b, rfl, s1, s2⟩ := t2.twoV
        have e3 := keyOf_some hk
        subst e3
        have e4 : a = kV kx := by
          cases kx with
          | inl i =>
            unfold ofKey RD at s1
            exact s1
          | inr z =>
            unfold ofKey RD at s1
            exact s1
        subst e4
        exact ⟨p :: ps, (kx, b) :: kvs, rfl, .cons t1 q1, .cons ⟨rfl, s2⟩ q2⟩
      · cases e
    · cases e
end
end Mi
end
section
/-! Mi, part 6: subscripts, slices, built-ins, methods. -/
namespace Mi
open PySem PySem.Spec PyProof.Rows L2
theorem RD.intV {K : PySem.W.Frag} {m : Nat → Addr} {n : Nat} {H : Hp} {i : Int} {v : V} (h : RD K m n H (.int i) v) : v = .int i := by
  unfold RD at h
  exact h
section
variable {X : Cx}
theorem RDL.atD {K : PySem.W.Frag} {m : Nat → Addr} {n : Nat} {H : Hp} {ds : List D} {vs : List V} {i : Int} {d : D} (h : RDL K m n H ds vs) (e : atI ds i = some d) : ∃ v, atI vs i = some v ∧ RD K m n H d v := by
  unfold atI at e ⊢
  rw [h.len] at e
  cases q : ixN vs.length i with
  | none => rw [q] at e; cases e
  | some j =>
    rw [q] at e
    exact h.getD e
/-- a subscript of a list, a tuple, a text -/
def rIxD (K : PySem.W.Frag) : R2 := fun x y H Q => ∃ bs m st d1 d2, Wf K bs m st H ∧ Rn K m st.length H d1 x ∧ RD K m st.length H d2 y ∧ (∀ ks vs, d1 ≠ .dct ks vs) ∧ Ok K bs (RD K) m st.length H Q ((ixD d1 d2).fin false st)
theorem ir_ix : IxR X (rIxD X.K) := by
  intro value slice pins s σ H x y v u Q I rx ry h hs
  obtain ⟨bs, m, st, d1, d2, W, h1, h2, hd, q⟩ := h
  unfold ixD at q
  split at q
  · obtain rfl := RD.intV h2
    obtain ⟨p, vs, rfl, e1, r1⟩ := h1.tupT
    split at q
    · rename_i d hat
      obtain ⟨w, hw, hr⟩ := r1.atD hat
      exact ix_tup value slice pins s σ H _ _ v u Q I rx ry ⟨p, vs, _, w, rfl, rfl, e1, hw, q.at W hr⟩ hs
    · exact q.elim
  · obtain rfl := RD.intV h2
    obtain ⟨p, vs, rfl, e1, r1⟩ := h1
    split at q
    · rename_i d hat
      obtain ⟨w, hw, hr⟩ := r1.atD hat
      exact ix_list value slice pins s σ H _ _ v u Q I rx ry ⟨p, vs, _, w, rfl, rfl, SqL.of e1, hw, q.at W hr⟩ hs
    · exact q.elim
  · obtain rfl := RD.intV h2
    obtain rfl := h1.str
    split at q
    · rename_i hz
      split at q
      · rename_i c hat
        exact ix_str value slice pins s σ H _ _ v u Q I rx ry ⟨_, _, c, rfl, rfl, le_line hz rfl, hat, q.at W (by unfold RD; rfl)⟩ hs
      · exact q.elim
    · exact q.elim
  · exact absurd rfl (hd _ _)
  · exact q.elim
/-- a slice -/
def rSlD (K : PySem.W.Frag) : V → Option Int → Option Int → Hp → VK → Prop := fun x lo hi H Q => ∃ bs m st d own, Wf K bs m st H ∧ Rn K m st.length H d x ∧ Ok K bs (RD K) m st.length H Q ((slD d lo hi).fin own st)
theorem cut_map {α β : Type} (f : α → β) (xs : List α) (lo hi : Option Int) : Mi.cut (xs.map f) lo hi = (Mi.cut xs lo hi).map f := by
  unfold Mi.cut
  rw [List.length_map, List.map_take, List.map_drop]
theorem cutV_eq (xs : List V) (lo hi : Option Int) : cutV xs lo hi = Mi.cut xs lo hi := rfl
theorem cut_whole {α : Type} {xs : List α} {lo hi : Option Int} (h : HT.sIx xs.length 0 lo = 0 ∧ HT.sIx xs.length xs.length hi = xs.length) : Mi.cut xs lo hi = xs := by
  unfold Mi.cut
  rw [h.1, h.2, List.drop_zero, Nat.sub_zero, List.take_length]
theorem sr_sl : SlR X (rSlD X.K) := by
  intro pins s σ H x v vl vu lo hi sl Q I rx hs pl pu h
  obtain ⟨bs, m, st, d, own, W, h1, q⟩ := h
  unfold slD at q
  split at q
  · have g1 : RD X.K m st.length H (.tup _) x := h1
    obtain ⟨p, vs, rfl, e1, r1⟩ := h1.tupT
    refine sl_tupN pins s σ H _ v vl vu lo hi sl Q I rx hs pl pu ⟨p, vs, rfl, e1, fun hw => ?_, fun _ => Ok.new_tup W (r1.cut' lo hi) q⟩
    rw [← r1.len] at hw
    rw [cut_whole hw] at q
    exact q.at W g1
  · obtain ⟨p, vs, rfl, e1, r1⟩ := h1
    exact sl_list pins s σ H _ v vl vu lo hi sl Q I rx hs pl pu ⟨p, vs, rfl, SqL.of e1, (Ok.fin_new W (r1.cut' lo hi) q).2⟩
  · obtain ⟨p, rfl, e1⟩ := h1.scrL
    refine sl_list pins s σ H _ v vl vu lo hi sl Q I rx hs pl pu ⟨p, _, rfl, e1, ?_⟩
    rw [cutV_eq, cut_map]
    exact (Ok.fin_new W RDL.ints q).2
  · obtain rfl := h1.str
    split at q
    · rename_i hz
      exact sl_str pins s σ H _ v vl vu lo hi sl Q I rx hs pl pu ⟨_, rfl, le_line hz rfl, q.at W (by unfold RD; rfl)⟩
    · exact q.elim
  · exact q.elim

/-! ### built-ins -/
theorem noLL_zip : ∀ (a b : List PyData), a.length = b.length → noLK (a.zip b) = (noLL a && noLL b)
  | [], [], _ => by
    rw [List.zip_nil_left]
    unfold noLK noLL
    rfl
  | [], _ :: _, h => by cases h
  | _ :: _, [], h => by cases h
  | x :: a, y :: b, h => by
    rw [List.zip_cons_cons]
    unfold noLK noLL
    rw [noLL_zip a b (Nat.succ.inj h)]
    cases noL x <;> cases noL y <;> cases noLL a <;> cases noLL b <;> rfl
theorem pyL_len : ∀ {ds : List D} {l : List PyData}, pyL ds = some l → l.length = ds.length
  | [], l, e => by
    unfold pyL at e
    cases e
    rfl
  | d :: ds, l, e => by
    unfold pyL at e
    cases q1 : py d with
    | none => simp only [q1] at e; cases e
    | some a =>
      cases q2 : pyL ds with
      | none => simp only [q1, q2] at e; cases e
      | some b =>
        simp only [q1, q2] at e
        cases e
        rw [List.length_cons, List.length_cons, pyL_len q2]
def pyK : Key → PyData
  | .inl i => .int i
  | .inr x => .str x
theorem pyL_keys : ∀ kk : List Key, pyL (kk.map ofKey) = some (kk.map pyK)
  | [] => by
    show pyL [] = _
    unfold pyL
    rfl
  | k :: r => by
    show pyL (ofKey k :: r.map ofKey) = _
    unfold pyL
    rw [pyL_keys r]
    cases k <;> (unfold ofKey py; rfl)
theorem keys_reads {P : Program} {w : World} {h : Heap} : ∀ {es : List DictEntry} {kk : List Key} {us : List Value}, PySem.Pairs (mixKind P w) es (kk.zip us) → kk.length = us.length → ReadsAll h (es.map (·.key)) (kk.map pyK) []
  | es, [], us, hp, _ => by
    rw [List.zip_nil_left] at hp
    cases hp
    exact .nil
  | es, k :: kk, [], hp, hl => by cases hl
  | es, k :: kk, u :: us, hp, hl => by
    rw [List.zip_cons_cons] at hp
    cases hp with
    | @cons e kv es' kvs' h1 h2 h3 =>
      have r := keys_reads (h := h) h3 (Nat.succ.inj hl)
      rcases keyIs_shape (show keyIs k e.key = true from h1) with ⟨i, t, rfl, q⟩ | ⟨x, t, rfl, q⟩
      · show ReadsAll h (e.key :: es'.map (·.key)) _ _
        rw [q]
        exact .cons (.int i t) r
      · show ReadsAll h (e.key :: es'.map (·.key)) _ _
        rw [q]
        exact .cons (.str x t) r
theorem vals_of_pairs {P : Program} {w : World} : ∀ {es : List DictEntry} {kk : List Key} {us : List Value}, PySem.Pairs (mixKind P w) es (kk.zip us) → kk.length = us.length → es.map (·.val) = us
  | es, [], us, hp, hl => by
    rw [List.zip_nil_left] at hp
    cases hp
    cases us with
    | nil => rfl
    | cons _ _ => cases hl
  | es, k :: kk, [], hp, hl => by cases hl
  | es, k :: kk, u :: us, hp, hl => by
    rw [List.zip_cons_cons] at hp
    cases hp with
    | @cons e kv es' kvs' h1 h2 h3 =>
      rw [List.map_cons, h2, vals_of_pairs h3 (Nat.succ.inj hl)]
theorem KV.unzip : ∀ {kk : List Key} {vs : List V} {ws : List (Key × Value)}, KV (kk.zip vs) ws → kk.length = vs.length → ∃ us, ws = kk.zip us ∧ Vals vs us ∧ kk.length = us.length
  | [], [], ws, h, _ => by
    rw [List.zip_nil_left] at h
    cases h
    exact ⟨[], rfl, .nil, rfl⟩
  | [], _ :: _, _, _, h => by cases h
  | _ :: _, [], _, _, h => by cases h
  | k :: kk, v :: vs, ws, h, hl => by
    rw [List.zip_cons_cons] at h
    cases h with
    | @cons p q ps qs r t =>
      obtain ⟨us, e1, e2, e3⟩ := KV.unzip t (Nat.succ.inj hl)
      obtain ⟨r1, r2⟩ := r
      refine ⟨q.2 :: us, ?_, .cons r2 e2, by rw [List.length_cons, List.length_cons, e3]⟩
      rw [List.zip_cons_cons, ← e1]
      obtain ⟨q1, q2⟩ := q
      show (q1, q2) :: qs = (k, q2) :: qs
      rw [show q1 = k from r1.symm]
theorem readsAll_len {h : Heap} : ∀ {us : List Value} {l : List PyData} {as : List Addr}, ReadsAll h us l as → l.length = us.length
  | _, _, _, .nil => rfl
  | _, _, _, .cons _ r => by rw [List.length_cons, List.length_cons, readsAll_len r]
theorem not_mem_app {a : Addr} {xs ys : List Addr} (h1 : a ∉ xs) (h2 : a ∉ ys) : a ∉ xs ++ ys := fun h => (List.mem_append.mp h).elim h1 h2
section
variable {pins : List (Addr × Obj)} {s : Shared} {σ : L2.St} {H : Hp} {m : Nat → Addr} {n : Nat}
theorem dict_reads {ks ds : List D} {a : Addr} {kk : List Key} {vs : List V} {p : PyData} (I : Inv X pins σ H s) (hd : Rd H a (.dK (kk.zip vs))) (hl : kk.length = vs.length) (hk : ks = kk.map ofKey) (e : py (.dct ks ds) = some p)
    (ih : ∀ (us : List Value) (l : List PyData), Vals vs us → pyL ds = some l → ∃ as, ReadsAll s.heap us l as ∧ (noLL l = true → sysModules ∉ as)) : ∃ as, Reads s.heap (.ref a) p as ∧ (noL p = true → sysModules ∉ as) := by
  obtain ⟨z, lo, ws, rel, dd⟩ := dk_rd I.hok hd
  obtain ⟨us, rfl, hv, hl2⟩ := KV.unzip rel hl
  obtain ⟨o, es, ep, ho, hx, hdat, _, hp, _⟩ := dd
  subst hk
  unfold py at e
  rw [pyL_keys] at e
  cases q2 : pyL ds with
  | none => simp only [q2] at e; cases e
  | some l =>
    simp only [q2] at e
    cases e
    obtain ⟨as, h1, h2⟩ := ih us l hv q2
    have e1 := keys_reads (h := s.heap) hp hl2
    have e2 := vals_of_pairs hp hl2
    have hlen : (kk.map pyK).length = l.length := by
      rw [List.length_map, readsAll_len h1, hl2]
    refine ⟨a :: [] ++ as, .dict ho hx.1 hdat (by rw [List.map_fst_zip (Nat.le_of_eq hlen)]; exact e1) (by rw [e2, List.map_snd_zip (Nat.le_of_eq hlen.symm)]; exact h1), fun hn => ?_⟩
    unfold noL at hn
    rw [noLL_zip _ _ hlen, Bool.and_eq_true] at hn
    intro hm
    rcases List.mem_cons.mp hm with hm | hm
    · rw [← hm] at lo
      simp at lo
    · exact h2 hn.2 hm
mutual
theorem RD.reads (I : Inv X pins σ H s) : ∀ (d : D) (v : V) (u : Value) (p : PyData), RD X.K m n H d v → RelV v u → py d = some p → ∃ as, Reads s.heap u p as ∧ (noL p = true → sysModules ∉ as)
  | .non, v, u, p, h, r, e => by
    unfold RD at h; unfold py at e; cases h; cases e; cases r
    exact ⟨[], .none, fun _ h => by cases h⟩
  | .bl b, v, u, p, h, r, e => by
    unfold RD at h; unfold py at e; cases h; cases e; cases r
    exact ⟨[], .bool b, fun _ h => by cases h⟩
  | .int i, v, u, p, h, r, e => by
    unfold RD at h; unfold py at e; cases h; cases e
    obtain ⟨t, rfl⟩ := r
    exact ⟨[], .int i t, fun _ h => by cases h⟩
  | .str x, v, u, p, h, r, e => by
    unfold RD at h; unfold py at e; cases h; cases e
    obtain ⟨t, rfl⟩ := r
    exact ⟨[], .str x t, fun _ h => by cases h⟩
  | .tup ds, v, u, p, h, r, e => by
    obtain ⟨a, vs, rfl, hs, hr⟩ := RD.tupT h
    unfold py at e
    cases hl : pyL ds with
    | none => simp only [hl] at e; cases e
    | some l =>
      simp only [hl] at e
      cases e
      obtain rfl : u = Value.ref a := r
      obtain ⟨its, rv, ⟨o, ho, hc, k, hd⟩, _⟩ := I.tuple hs
      obtain ⟨as, h1, h2⟩ := RDL.reads I ds _ _ _ hr rv hl
      exact ⟨as, .tuple ho hc hd h1, fun hn => h2 (by unfold noL at hn; exact hn)⟩
  | .lst ds, v, u, p, h, r, e => by
    unfold RD at h
    obtain ⟨a, vs, rfl, hs, _, hr⟩ := h
    unfold py at e
    cases hl : pyL ds with
    | none => simp only [hl] at e; cases e
    | some l =>
      simp only [hl] at e
      cases e
      obtain rfl : u = Value.ref a := r
      obtain ⟨its, rv, pl, _⟩ := I.list (SqL.of hs)
      obtain ⟨o, ho, hc, k, hd⟩ := pl.isList
      obtain ⟨as, h1, h2⟩ := RDL.reads I ds _ _ _ hr rv hl
      exact ⟨a :: as, .list ho hc hd h1, fun hn => by unfold noL at hn; cases hn⟩
  | .dct ks ds, v, u, p, h, r, e => by
    unfold RD at h
    obtain ⟨a, kk, vs, rfl, hd, _, hl, hk, hr⟩ := h
    obtain rfl : u = Value.ref a := r
    exact dict_reads I hd hl hk e fun us l hv hq => RDL.reads I ds vs us l hr hv hq
  | .loc i, v, u, p, h, _, e => by unfold py at e; cases e
  | .ref i, v, u, p, h, _, e => by unfold py at e; cases e
  | .ty i, v, u, p, h, _, e => by unfold py at e; cases e
  | .scr i, v, u, p, h, _, e => by unfold py at e; cases e
theorem RDL.reads (I : Inv X pins σ H s) : ∀ (ds : List D) (vs : List V) (us : List Value) (l : List PyData), RDL X.K m n H ds vs → Vals vs us → pyL ds = some l → ∃ as, ReadsAll s.heap us l as ∧ (noLL l = true → sysModules ∉ as)
  | [], vs, us, l, h, r, e => by
    unfold RDL at h; unfold pyL at e; cases h; cases e; cases r
    exact ⟨[], .nil, fun _ h => by cases h⟩
  | d :: ds, vs, us, l, h, r, e => by
    unfold RDL at h
    obtain ⟨v, w, rfl, h1, h2⟩ := h
    unfold pyL at e
    cases q1 : py d with
    | none => simp only [q1] at e; cases e
    | some a =>
      cases q2 : pyL ds with
      | none => simp only [q1, q2] at e; cases e
      | some b =>
        simp only [q1, q2] at e
        cases e
        cases r with
        | cons r1 r2 =>
          obtain ⟨as1, g1, g2⟩ := RD.reads I d _ _ _ h1 r1 q1
          obtain ⟨as2, g3, g4⟩ := RDL.reads I ds _ _ _ h2 r2 q2
          refine ⟨as1 ++ as2, .cons g1 g3, fun hn => ?_⟩
          unfold noLL at hn
          rw [Bool.and_eq_true] at hn
          exact not_mem_app (g2 hn.1) (g4 hn.2)
end
theorem Rn.reads (I : Inv X pins σ H s) {d : D} {v : V} {u : Value} {p : PyData} (h : Rn X.K m n H d v) (r : RelV v u) (e : py d = some p) : ∃ as, Reads s.heap u p as ∧ (noL p = true → sysModules ∉ as) := by
  cases d with
  | lst ds =>
    obtain ⟨a, vs, rfl, hs, hr⟩ := h
    unfold py at e
    cases hl : pyL ds with
    | none => simp only [hl] at e; cases e
    | some l =>
      simp only [hl] at e
      cases e
      obtain rfl : u = Value.ref a := r
      obtain ⟨its, rv, pl, _⟩ := I.list (SqL.of hs)
      obtain ⟨o, ho, hc, k, hd⟩ := pl.isList
      obtain ⟨as, h1, h2⟩ := RDL.reads I ds _ _ _ hr rv hl
      exact ⟨a :: as, .list ho hc hd h1, fun hn => by unfold noL at hn; cases hn⟩
  | dct ks ds =>
    obtain ⟨a, kk, vs, rfl, hd, hl, hk, hr⟩ := h
    obtain rfl : u = Value.ref a := r
    exact dict_reads I hd hl hk e fun us l hv hq => RDL.reads I ds vs us l hr hv hq
  | tup ds => exact RD.reads I _ _ _ _ h r e
  | non => exact RD.reads I _ _ _ _ h r e
  | bl _ => exact RD.reads I _ _ _ _ h r e
  | int _ => exact RD.reads I _ _ _ _ h r e
  | str _ => exact RD.reads I _ _ _ _ h r e
  | loc _ => exact RD.reads I _ _ _ _ h r e
  | ref _ => exact RD.reads I _ _ _ _ h r e
  | ty _ => exact RD.reads I _ _ _ _ h r e
  | scr _ => exact RD.reads I _ _ _ _ h r e
end
end
end Mi
end
section
/-! Mi, part 7: built-ins and methods, by data. -/
namespace Mi
open PySem PySem.Spec PyProof.Rows L2
/-! ### sorted texts -/
def leS (a b : Str) : Prop := ¬ b.cps.toList < a.cps.toList
theorem insS_perm (x : Str) : ∀ l : List Str, (insS x l).Perm (x :: l)
  | [] => .refl _
  | y :: r => by
    unfold insS
    split
    · exact ((insS_perm x r).cons y).trans (.swap x y r)
    · exact .refl _
theorem sortS_perm : ∀ l : List Str, (sortS l).Perm l
  | [] => .refl _
  | x :: r => (insS_perm x (sortS r)).trans ((sortS_perm r).cons x)
theorem leS_trans {a b c : Str} (h1 : leS a b) (h2 : leS b c) : leS a c := by
  unfold leS at *
  rw [List.not_lt] at *
  exact List.le_trans h1 h2
theorem leS_total {a b : Str} (h : ¬ leS a b) : leS b a := by
  unfold leS at *
  rw [List.not_lt] at *
  exact (List.le_total a.cps.toList b.cps.toList).resolve_left h
theorem leS_anti {a b : Str} (h1 : leS a b) (h2 : leS b a) : a = b := by
  unfold leS at *
  rw [List.not_lt] at *
  have e := List.le_antisymm h1 h2
  cases a
  cases b
  simp at e
  rw [e]
theorem insS_sorted (x : Str) : ∀ l : List Str, l.Pairwise leS → (insS x l).Pairwise leS
  | [], _ => List.pairwise_singleton _ _
  | y :: r, h => by
    have hr := (List.pairwise_cons.mp h).2
    have hy := (List.pairwise_cons.mp h).1
    unfold insS
    split
    · rename_i hd
      refine List.pairwise_cons.mpr ⟨fun z hz => ?_, insS_sorted x r hr⟩
      rcases List.mem_cons.mp ((insS_perm x r).mem_iff.mp hz) with rfl | hz
      · exact leS_total fun q => q (of_decide_eq_true hd)
      · exact hy z hz
    · rename_i hd
      have hxy : leS x y := fun q => hd (decide_eq_true q)
      refine List.pairwise_cons.mpr ⟨fun z hz => ?_, h⟩
      rcases List.mem_cons.mp hz with rfl | hz
      · exact hxy
      · exact leS_trans hxy (hy z hz)
theorem sortS_sorted : ∀ l : List Str, (sortS l).Pairwise leS
  | [] => List.Pairwise.nil
  | x :: r => insS_sorted x _ (sortS_sorted r)
theorem rising_pw : ∀ (p : Str) (l : List Str), PyProof.Rows.risingS p l = true → (p :: l).Pairwise leS
  | p, [], _ => List.pairwise_singleton _ _
  | p, x :: r, h => by
    unfold PyProof.Rows.risingS at h
    rw [Bool.and_eq_true] at h
    have ih := rising_pw x r h.2
    have hpx : leS p x := by
      have e := h.1
      rw [PyProof.Rows.ltCps_eq] at e
      unfold leS
      simpa using e
    refine List.pairwise_cons.mpr ⟨fun z hz => ?_, ih⟩
    rcases List.mem_cons.mp hz with rfl | hz
    · exact hpx
    · exact leS_trans hpx ((List.pairwise_cons.mp ih).1 z hz)
theorem sortS_unique {ys xs : List Str} (hp : ys.Perm xs) (hs : PyProof.Rows.sortedS ys = true) : ys = sortS xs := by
  have h1 : ys.Pairwise leS := by
    cases ys with
    | nil => exact List.Pairwise.nil
    | cons y r => exact rising_pw y r hs
  exact List.Perm.eq_of_pairwise (fun a b _ _ h1 h2 => leS_anti h1 h2) h1 (sortS_sorted xs) (hp.trans (sortS_perm xs).symm)
theorem strsOf_map : ∀ {ds : List D} {l : List Str}, strsOf ds = some l → ds = l.map .str
  | [], l, e => by
    unfold strsOf at e
    cases e
    rfl
  | d :: ds, l, e => by
    unfold strsOf at e
    split at e
    · cases e; rename_i h; cases h
    · rename_i x r h
      cases h
      split at e
      · rename_i l' hl
        cases e
        rw [strsOf_map hl]
        rfl
      · cases e
    · cases e
theorem intsOf_map : ∀ {ds : List D} {l : List Int}, intsOf ds = some l → ds = l.map .int
  | [], l, e => by
    unfold intsOf at e
    cases e
    rfl
  | d :: ds, l, e => by
    unfold intsOf at e
    split at e
    · cases e; rename_i h; cases h
    · rename_i x r h
      cases h
      split at e
      · rename_i l' hl
        cases e
        rw [intsOf_map hl]
        rfl
      · cases e
    · cases e
section
variable {K : PySem.W.Frag} {m : Nat → Addr} {n : Nat} {H : Hp}
theorem RDL.strV : ∀ {l : List Str} {vs : List V}, RDL K m n H (l.map .str) vs → vs = l.map .str
  | [], vs, h => by
    have h' : RDL K m n H [] vs := h
    unfold RDL at h'
    exact h'
  | x :: r, vs, h => by
    have h' : RDL K m n H (.str x :: r.map .str) vs := h
    unfold RDL at h'
    obtain ⟨v, w, rfl, h1, h2⟩ := h'
    unfold RD at h1
    rw [h1, RDL.strV h2]
    rfl
theorem RDL.intV : ∀ {l : List Int} {vs : List V}, RDL K m n H (l.map .int) vs → vs = l.map .int
  | [], vs, h => by
    have h' : RDL K m n H [] vs := h
    unfold RDL at h'
    exact h'
  | x :: r, vs, h => by
    have h' : RDL K m n H (.int x :: r.map .int) vs := h
    unfold RDL at h'
    obtain ⟨v, w, rfl, h1, h2⟩ := h'
    unfold RD at h1
    rw [h1, RDL.intV h2]
    rfl
theorem RDL.keysV : ∀ {kk : List Key}, RDL K m n H (kk.map ofKey) (kk.map kV)
  | [] => RDL.nil
  | k :: r => RDL.cons (by cases k <;> (unfold ofKey RD; rfl)) RDL.keysV
end

/-! ### built-ins -/
def biN : BI → Str
  | .len => "len" | .list => "list" | .tuple => "tuple" | .repr => "repr" | .str1 => "str" | .int1 => "int" | .sorted => "sorted" | .sum => "sum" | .max1 => "max" | .max2 => "max" | .min1 => "min" | .min2 => "min"
  | .abs => "abs" | .dict1 => "dict" | .bool1 => "bool" | .ord => "ord" | .chr => "chr" | .isi => "isinstance"
def biT : BI → Bool
  | .list => true | .tuple => true | .str1 => true | .int1 => true | .dict1 => true | .bool1 => true
  | _ => false
def biS : BI → String
  | .len => "len" | .list => "list" | .tuple => "tuple" | .repr => "repr" | .str1 => "str" | .int1 => "int" | .sorted => "sorted" | .sum => "sum" | .max1 => "max" | .max2 => "max" | .min1 => "min" | .min2 => "min"
  | .abs => "abs" | .dict1 => "dict" | .bool1 => "bool" | .ord => "ord" | .chr => "chr" | .isi => "isinstance"
def biV (f : BI) : Value := if biT f then .type (biS f) else .builtin (biS f)
theorem bi_boot (f : BI) : bootBuiltins (biN f) = some (biV f) := by cases f <;> decide +kernel
section
variable {X : Cx}
def rBi (K : PySem.W.Frag) (f : BI) : List V → Hp → VK → Prop := fun vs H Q => ∃ bs m st ds own, Wf K bs m st H ∧ Paired (fun d v => Rn K m st.length H d v) ds vs ∧ Ok K bs (RD K) m st.length H Q ((biD f ds).fin own st)
theorem pair1 {α β : Type} {F : α → β → Prop} {x : α} {vs : List β} (h : Paired F [x] vs) : ∃ v, vs = [v] ∧ F x v := by
  cases h with
  | cons r t => cases t; exact ⟨_, rfl, r⟩
theorem pair2 {α β : Type} {F : α → β → Prop} {x y : α} {vs : List β} (h : Paired F [x, y] vs) : ∃ v w, vs = [v, w] ∧ F x v ∧ F y w := by
  cases h with
  | cons r t =>
    obtain ⟨w, rfl, q⟩ := pair1 t
    exact ⟨_, w, rfl, r, q⟩
theorem Rn.ty {K : PySem.W.Frag} {m : Nat → Addr} {n : Nat} {H : Hp} {t : Bt} {v : V} (h : Rn K m n H (.ty t) v) : v = .ty t.name := by
  have h' : RD K m n H (.ty t) v := h
  unfold RD at h'
  exact h'
theorem isi_kit {K : PySem.W.Frag} {m : Nat → Addr} {n : Nat} {H : Hp} {d : D} {v : V} {t : Bt} {b : Bool} (h : Rn K m n H d v) (e : isiD d t = some b) : ∃ a : String, TyX K H v (.type a) ∧ kitB a t.name = some b := by
  unfold isiD at e
  split at e
  · cases e
    rw [h.non]
    exact ⟨_, .base .non, by cases t <;> decide +kernel⟩
  · cases e
    rw [h.bl]
    exact ⟨_, .base (.bl _), by cases t <;> decide +kernel⟩
  · cases e
    rw [h.int]
    exact ⟨_, .base (.int _), by cases t <;> decide +kernel⟩
  · cases e
    rw [h.str]
    exact ⟨_, .base (.str _), by cases t <;> decide +kernel⟩
  · cases e
    have g : RD K m n H (.tup _) v := h
    unfold RD at g
    obtain ⟨p, vs, rfl, g1, _⟩ := g
    rcases g1 with ⟨its, g1, _⟩ | ⟨o, its, k, g1, g2, _⟩
    · exact ⟨"tuple", .fTuple g1, by cases t <;> decide +kernel⟩
    · exact ⟨"tuple", .kTuple g1 g2, by cases t <;> decide +kernel⟩
  · cases e
    obtain ⟨p, vs, rfl, g1, _⟩ := h
    exact ⟨"list", .base (.lst g1), by cases t <;> decide +kernel⟩
  · cases e
    obtain ⟨p, kk, vs, rfl, g1, _⟩ := h
    rcases g1 with g1 | ⟨o, g1⟩
    · exact ⟨"dict", .base (.dK g1), by cases t <;> decide +kernel⟩
    · exact ⟨"dict", .fDict g1, by cases t <;> decide +kernel⟩
  · cases e
theorem call_reprD {pins : List (Addr × Obj)} {s : Shared} {σ : L2.St} {H : Hp} {x : V} {u : Value} {d : D} {Q : VK} {m : Nat → Addr} {n : Nat} {z : Str} (hg : X.A.guards = some []) (hu : X.A.units + 61 < cLine) (I : Inv X pins σ H s) (h : Rn X.K m n H d x) (r : RelV x u)
    (e : reprD d = .val (.str z)) (q : Q (.str z) H) : wpAny (model X.prog X.w) X.A (call (.builtin "repr") [u]) (EP X pins σ Q) X.xe s := by
  unfold reprD at e
  split at e
  · rename_i p hp
    split at e
    · rename_i hc
      cases e
      rw [Bool.and_eq_true, Bool.and_eq_true, Bool.and_eq_true, Bool.or_eq_true] at hc
      obtain ⟨⟨⟨h1, h2⟩, h3⟩, h4⟩ := hc
      have hz := le_line h4 rfl
      have hd := of_decide_eq_true h2
      obtain ⟨as, rd, hs⟩ := h.reads I r hp
      have hsm : p.hasDict = true → sysModules ∉ as := fun hx => by
        rcases h3 with h3 | h3
        · rw [hx] at h3; cases h3
        · exact hs h3
      cases rd with
      | none => exact PySem.P.repr_of_none ⟨.str _, H, I.tok _, ⟨_, rfl⟩, by unfold PyData.shown at q; exact q⟩
      | bool b => exact PySem.P.repr_of_bool ⟨.str _, H, I.tok _, ⟨_, rfl⟩, by unfold PyData.shown at q; exact q⟩
      | int i t =>
        unfold PyData.showable at h1
        exact PySem.P.repr_of_int (of_decide_eq_true h1) ⟨.str _, H, I.tok _, ⟨_, rfl⟩, by unfold PyData.shown at q; exact q⟩
      | str y t =>
        unfold PyData.shown at hz q
        exact PySem.P.repr_of_str ⟨.str _, H, I.tok _, ⟨_, rfl⟩, q⟩ hz
      | list g1 g2 g3 g4 => exact repr_of_reads' (.list g1 g2 g3 g4) h1 hsm hg (by omega) (fun _ _ e => e) (fun h' u tk hk => ⟨.str _, H, I.kept hk, ⟨_, rfl⟩, q⟩) hz
      | tuple g1 g2 g3 g4 => exact repr_of_reads' (.tuple g1 g2 g3 g4) h1 hsm hg (by omega) (fun _ _ e => e) (fun h' u tk hk => ⟨.str _, H, I.kept hk, ⟨_, rfl⟩, q⟩) hz
      | dict g1 g2 g3 g4 g5 => exact repr_of_reads' (.dict g1 g2 g3 g4 g5) h1 hsm hg (by omega) (fun _ _ e => e) (fun h' u tk hk => ⟨.str _, H, I.kept hk, ⟨_, rfl⟩, q⟩) hz
    · cases e
  · cases e
/-- a built-in called, by data -/
theorem cr_bi {f : BI} (hc : X.calm = true) (hg : X.A.guards = some []) (hu : X.A.units + 65 < cLine) : CallR X (biV f) (rBi X.K f) := by
  intro pins s σ H xs us Q I r h
  obtain ⟨bs, m, st, ds, own, W, hp, q⟩ := h
  unfold biD at q
  split at q
  · obtain ⟨v, rfl, h1⟩ := pair1 hp
    obtain ⟨p, vs, rfl, e1, r1⟩ := h1.tupT
    exact call_len_seq pins s σ H _ us Q I r ⟨p, vs, rfl, .inr e1, q.at W (by unfold RD; rw [r1.len])⟩
  · obtain ⟨v, rfl, h1⟩ := pair1 hp
    obtain ⟨p, vs, rfl, e1, r1⟩ := h1
    exact call_len_seq pins s σ H _ us Q I r ⟨p, vs, rfl, .inl (SqL.of e1), q.at W (by unfold RD; rw [r1.len])⟩
  · obtain ⟨v, rfl, h1⟩ := pair1 hp
    obtain ⟨p, kk, vs, rfl, e1, e2, rfl, r1⟩ := h1
    obtain ⟨u, rfl, ru⟩ := vals1 r
    obtain rfl : u = Value.ref p := ru
    refine d_len I e1 fun t s' I' => ⟨.int _, H, I', ⟨t, rfl⟩, q.at W ?_⟩
    unfold RD
    rw [List.length_zip, List.length_map, e2, Nat.min_self]
  · obtain ⟨v, rfl, h1⟩ := pair1 hp
    obtain rfl := h1.str
    split at q
    · rename_i hz
      exact call_len_str pins s σ H _ us Q I r ⟨_, rfl, le_line hz rfl, q.at W (by unfold RD; rfl)⟩
    · exact q.elim
  · obtain ⟨v, rfl, h1⟩ := pair1 hp
    obtain ⟨p, vs, rfl, e1, r1⟩ := h1.tupT
    exact call_list_of pins s σ H _ us Q I r ⟨p, vs, rfl, .inr e1, (Ok.fin_new W r1 q).2⟩
  · obtain ⟨v, rfl, h1⟩ := pair1 hp
    obtain ⟨p, vs, rfl, e1, r1⟩ := h1
    exact call_list_of pins s σ H _ us Q I r ⟨p, vs, rfl, .inl (SqL.of e1), (Ok.fin_new W r1 q).2⟩
  · obtain ⟨v, rfl, h1⟩ := pair1 hp
    obtain ⟨p, rfl, e1⟩ := h1.scrL
    exact call_list_of pins s σ H _ us Q I r ⟨p, _, rfl, .inl e1, (Ok.fin_new W RDL.ints q).2⟩
  · obtain ⟨v, rfl, h1⟩ := pair1 hp
    obtain ⟨p, kk, vs, rfl, e1, e2, rfl, r1⟩ := h1
    refine call_listD hc pins s σ H _ us Q I r ⟨p, _, rfl, e1, ?_⟩
    have ek : ((kk.zip vs).map fun kv => kV kv.1) = kk.map kV := by
      rw [← List.map_fst_zip (l₁ := kk) (l₂ := vs) (Nat.le_of_eq e2), List.map_map]
      rw [List.map_fst_zip (Nat.le_of_eq e2)]
      rfl
    rw [ek]
    exact (Ok.fin_new W RDL.keysV q).2
  · obtain ⟨v, rfl, h1⟩ := pair1 hp
    have g1 : RD X.K m st.length H (.tup _) v := h1
    obtain ⟨p, vs, rfl, e1, r1⟩ := h1.tupT
    exact call_tupN pins s σ H _ us Q I r ⟨p, vs, rfl, .inr ⟨e1, q.at W g1⟩⟩
  · obtain ⟨v, rfl, h1⟩ := pair1 hp
    obtain ⟨p, vs, rfl, e1, r1⟩ := h1
    exact call_tupN pins s σ H _ us Q I r ⟨p, vs, rfl, .inl ⟨SqL.of e1, Ok.new_tup W r1 q⟩⟩
  · obtain ⟨v, rfl, h1⟩ := pair1 hp
    obtain ⟨u, rfl, ru⟩ := vals1 r
    unfold reprD at q
    split at q
    · rename_i p hpy
      split at q
      · rename_i hcond
        refine call_reprD hg (by omega) I h1 ru (z := p.shown) ?_ (q.at W (by unfold RD; rfl))
        unfold reprD
        simp only [hpy, hcond, if_true]
      · exact q.elim
    · exact q.elim
  · obtain ⟨v, rfl, h1⟩ := pair1 hp
    obtain rfl := h1.int
    exact call_int1 pins s σ H _ us Q I r (.inl ⟨_, rfl, q.at W (by unfold RD; rfl)⟩)
  · obtain ⟨v, rfl, h1⟩ := pair1 hp
    obtain rfl := h1.bl
    exact call_int1 pins s σ H _ us Q I r (.inr ⟨_, rfl, q.at W (by unfold RD; rfl)⟩)
  · obtain ⟨v, rfl, h1⟩ := pair1 hp
    obtain ⟨p, vs, rfl, e1, r1⟩ := h1
    split at q
    · rename_i l hl
      split at q
      · rename_i h64
        have e := strsOf_map hl
        subst e
        obtain rfl := r1.strV
        refine cr_sortedS pins s σ H _ us Q I r ⟨p, l, rfl, SqL.of e1, Nat.le_of_ble_eq_true h64, fun ys b hperm hs hb => ?_⟩
        have e := sortS_unique hperm hs
        subst e
        exact (Ok.fin_new W RDL.strs q).2 b hb
      · exact q.elim
    · exact q.elim
  · obtain ⟨v, rfl, h1⟩ := pair1 hp
    obtain ⟨p, vs, rfl, e1, r1⟩ := h1
    split at q
    · rename_i l hl
      have e := intsOf_map hl
      subst e
      obtain rfl := r1.intV
      exact cr_sum hc pins s σ H _ us Q I r ⟨p, l, rfl, SqL.of e1, q.at W (by unfold RD; rfl)⟩
    · exact q.elim
  · obtain ⟨v, w, rfl, h1, h2⟩ := pair2 hp
    obtain rfl := h2.ty
    split at q
    · rename_i b hb
      obtain ⟨a, ht, hk⟩ := isi_kit h1 hb
      exact call_isi pins s σ H _ us Q I r ⟨v, _, _, _, b, rfl, .ty _, ht, kit_ty hk, q.at W (by unfold RD; rfl)⟩
    · exact q.elim
  · obtain ⟨v, rfl, h1⟩ := pair1 hp
    obtain rfl := h1.int
    split at q
    · rename_i hz
      exact call_str_int pins s σ H _ us Q I r ⟨_, rfl, Nat.le_of_ble_eq_true hz, q.at W (by unfold RD; rfl)⟩
    · exact q.elim
  · obtain ⟨v, rfl, h1⟩ := pair1 hp
    obtain ⟨p, kk, vs, rfl, e1, e2, rfl, r1⟩ := h1
    exact call_dictD pins s σ H _ us Q I r ⟨p, _, rfl, e1, Ok.fin_newDK W e2 r1 q⟩
  · obtain ⟨v, rfl, h1⟩ := pair1 hp
    have g1 : RD X.K m st.length H (.tup _) v := h1
    unfold RD at g1
    obtain ⟨p, vs, rfl, e1, r1⟩ := g1
    split at q
    · rename_i l hl
      obtain ⟨ps, kvs, rfl, q1, q2⟩ := pairs_ok r1 hl
      obtain ⟨kk', vs', m1, m2, m3, m4⟩ := mrg_ok q2 (kk := []) (ds := []) (vs := []) RDL.nil rfl
      refine call_dictTup hc pins s σ H _ us Q I r ⟨p, ps, kvs, rfl, e1.imp (fun ⟨its, z, _⟩ => ⟨its, z⟩) id, q1, ?_⟩
      have m1' : mergeK [] kvs = kk'.zip vs' := m1
      have m3' : (mrgD l [] []).1 = kk'.map ofKey := m3
      rw [m1']
      rw [m3'] at q
      exact Ok.fin_newDK W m2 m4 q
    · exact q.elim
  · obtain ⟨v, rfl, h1⟩ := pair1 hp
    obtain ⟨p, vs, rfl, e1, r1⟩ := h1
    split at q
    · rename_i l hl
      obtain ⟨ps, kvs, rfl, q1, q2⟩ := pairs_ok r1 hl
      obtain ⟨kk', vs', m1, m2, m3, m4⟩ := mrg_ok q2 (kk := []) (ds := []) (vs := []) RDL.nil rfl
      refine call_dictP hc pins s σ H _ us Q I r ⟨p, ps, kvs, rfl, SqL.of e1, q1, ?_⟩
      have m1' : mergeK [] kvs = kk'.zip vs' := m1
      have m3' : (mrgD l [] []).1 = kk'.map ofKey := m3
      rw [m1']
      rw [m3'] at q
      exact Ok.fin_newDK W m2 m4 q
    · exact q.elim
  · exact q.elim
end
end Mi
end
section
/-! Mi, part 8: defs and their calls. -/
namespace Mi
open PySem PySem.Spec PyProof.Rows L2

/-- a promise without exceptions -/
abbrev Spq := List V → Hp → VK → Prop
/-- the def at f keeps the promise wherever no repr is under way -/
structure FnG (P : Program) (w : World) (K : PySem.W.Frag) (mg : Str → Option Value) (base : Heap) (k : Nat) (f : Addr) (fd : FuncData) (ps : List Str) (sp : Spq) : Prop where
  len : ∀ vs H Q, sp vs H Q → vs.length = ps.length
  run : ∀ (A : Around) (out : List Env) (s : Shared) (H : Hp) (args : Args) (us : List Value) (vs : List V) (Q : VK), Room k A → A.guards = some [] → Env0 P w K mg base A out s H → BindsTo s fd args (ps.zip us) → Vals vs us → sp vs H Q →
    codeAny (model P w) A (.call (.ref f) args) (CR CX0 out P w H s Q E0) s
section
variable {X : Cx} {k : Nat} {f : Addr} {fd : FuncData} {ps : List Str} {sp : Spq}
theorem FnG.called {pins : List (Addr × Obj)} {σ : L2.St} {H : Hp} {s : Shared} {Q : VK} {args : Args} {us : List Value} {vs : List V} (F : FnG X.prog X.w X.K X.mg X.base k f fd ps sp) (hr : Room k X.A) (hg : X.A.guards = some [])
    (hb : BindsTo s fd args (ps.zip us)) (I : Inv X pins σ H s) (r : Vals vs us) (h : sp vs H Q) : wpAny (model X.prog X.w) X.A (call (.ref f) args.pos args.kw) (EP X pins σ Q) X.xe s := by
  refine wpAny_call (codeAny_mono (F.run X.A X.stack s H ⟨args.pos, args.kw⟩ us vs Q hr hg I.env0 hb r h) ?_)
  intro res s' hres
  cases res with
  | error e => exact False.elim hres
  | ok fl =>
    cases fl with
    | ret u =>
      obtain ⟨v, H', e1, e2, e3, e4, e5, e6⟩ := hres
      exact ⟨v, H', I.call' e1 e3 e4 e2 (fun b hb => by cases hb), e5, e6⟩
    | next => exact False.elim hres
    | brk => exact False.elim hres
    | cont => exact False.elim hres
theorem pe_gcall {x : Str} {p pos : Pos} {e : Expr} {es : List Expr} {t : TA} (F : FnG X.prog X.w X.K X.mg X.base k f fd ps sp) (hr : Room k X.A) (hgu : X.A.guards = some []) (hg : Gl X x) (hm : X.mg x = some (.ref f)) (hk : PySem.W.keepIn X.K (.ref f) = true) (hb : Binds X.K fd ps [])
    (ha : PA X (e :: es) t) (hdb : (x == ("__debug__" : Str)) = false) (he : starEach (e :: es) X.env = (false, eval e X.env) :: starEach es X.env) (hpl : (backTo pos (starEach es X.env)).any (·.1) = false) :
    PE X (.Call (.Name x p) (e :: es) [] pos) (fun σ H Q => t σ H fun vs H1 => sp vs H1 Q) := by
  refine ⟨fun pins s σ H Q I h => wpAny_Call_Name_kw (ld_glob I hg hm ?_ hdb)⟩
  refine PySem.W.callWith_K (h₀ := X.base) I.ok.mod.kin hk (thn (ha.run pos pins s σ H _ I h) ?_) he hpl
  intro us s1 hs
  obtain ⟨vs, H1, I1, r, q⟩ := hs
  refine ⟨I1.kIn, F.called (args := ⟨us, []⟩) (us := us) hr hgu ?_ I1 r q⟩
  have hl : us.length = ps.length := by rw [← r.length]; exact F.len _ _ _ q
  have h2 := hb s1 us I1.kIn (by rw [List.append_nil]; exact hl)
  rw [List.append_nil] at h2
  exact h2
theorem pe_gcall0 {x : Str} {p pos : Pos} (F : FnG X.prog X.w X.K X.mg X.base k f fd ps sp) (hr : Room k X.A) (hgu : X.A.guards = some []) (hg : Gl X x) (hm : X.mg x = some (.ref f)) (hk : PySem.W.keepIn X.K (.ref f) = true) (hb : Binds X.K fd ps [])
    (hdb : (x == ("__debug__" : Str)) = false) : PE X (.Call (.Name x p) [] [] pos) (fun _ H Q => sp [] H Q) := by
  refine ⟨fun pins s σ H Q I h => wpAny_Call_Name_kw (ld_glob I hg hm ?_ hdb)⟩
  refine PySem.W.callWith_K0 I.kIn hk ?_
  have hl : ([] : List V).length = ps.length := F.len _ _ _ h
  refine F.called (args := ⟨[], []⟩) (us := []) hr hgu ?_ I .nil h
  exact hb s [] I.kIn hl
/-- f(a, .., k = b, ..) -/
theorem pe_gcallK {x : Str} {p pos : Pos} {e : Expr} {es : List Expr} {kws : List Keyword} {ks : List Str} {t tk : TA} {g : List Value → List Value → List Value} {gV : List V → List V → List V} (F : FnG X.prog X.w X.K X.mg X.base k f fd ps sp) (hr : Room k X.A) (hgu : X.A.guards = some [])
    (hg : Gl X x) (hm : X.mg x = some (.ref f)) (hk : PySem.W.keepIn X.K (.ref f) = true) (hb : KBinds X.K fd ps ks g gV)
    (ha : PA X (e :: es) t) (hkw : PK X kws tk) (hall : (backToKw pos (keywordEach kws X.env)).all (·.1.isSome) = true) (hks : (backToKw pos (keywordEach kws X.env)).filterMap (·.1) = ks)
    (hdb : (x == ("__debug__" : Str)) = false) (he : starEach (e :: es) X.env = (false, eval e X.env) :: starEach es X.env) (hpl : ((backTo pos (starEach (e :: es) X.env)).any (·.1) || (backToKw pos (keywordEach kws X.env)).any (·.1.isNone)) = false) :
    PE X (.Call (.Name x p) (e :: es) kws pos) (fun σ H Q => t σ H fun vs H1 => tk σ H1 fun zs H2 => sp (gV vs zs) H2 Q) := by
  refine ⟨fun pins s σ H Q I h => wpAny_Call_Name_kw (ld_glob I hg hm ?_ hdb)⟩
  refine PySem.W.callWith_KW (h₀ := X.base) I.ok.mod.kin hk hall (thn (ha.run pos pins s σ H _ I h) ?_) hpl he
  intro us s1 hs
  obtain ⟨vs, H1, I1, r, q⟩ := hs
  refine thn (hkw.run pos pins s1 σ H1 _ I1 q) ?_
  intro ws s2 hs2
  obtain ⟨zs, H2, I2, rz, q2⟩ := hs2
  refine ⟨I2.kIn, ?_⟩
  rw [hks]
  have r2 := hb.rel r rz
  have hl : (g us ws).length = ps.length := by rw [← r2.length]; exact F.len _ _ _ q2
  exact F.called (args := ⟨us, ks.zip ws⟩) hr hgu (hb.to s2 us ws I2.kIn hl) I2 r2 q2
end
/-- a def by its body -/
theorem fng_of {P : Program} {w : World} {K : PySem.W.Frag} {mg : Str → Option Value} {base : Heap} {x qual : Str} {stm : Stmt} {f : Addr} {fd : FuncData} {N ps : List Str} {k : Nat} {sp : Spq} {dvs : List V} {kws : List (Str × V)} (F : FunD K x qual (defArgs stm) (defBody stm) (defScope stm) dvs kws f fd) (S : FnScope N ps (defScope stm))
    (len : ∀ vs H Q, sp vs H Q → vs.length = ps.length)
    (body : ∀ (cdv : Value) (A : Around) (out : List Env) (s : Shared) (H : Hp) (vs : List V) (Q : VK), fd.code = cdv → Room (k + 1) A → A.guards = some [] → sp vs H Q →
      ∃ t, PSs (cxOf CX0 P w K mg base N qual (defScope stm) f cdv A out s H E0).nox (defBody stm) t ∧ t { nx := fun _ H' => Q .non H', rt := Q } (start N vs) H) : FnG P w K mg base (k + 1) f fd ps sp := by
  obtain ⟨oc, od, dV, kV, doc, pm, an, cdv, ct, osl, rfl, lk, hcd, _, _⟩ := F.ex
  refine ⟨len, ?_⟩
  intro A out s H args us vs Q hr hgu e0 hb r hsp
  have hl := len _ _ _ hsp
  have hK : K.In s.heap := e0.mod.kin.keeps fun b o e => (e0.bs b o e).1
  have hlim : s.heap.NoLimit := e0.mod.nolimit.keeps fun b o e => (e0.bs b o e).1
  refine codeAny_call_function hr.depth (hK _ _ lk) rfl S.co S.gen rfl (PySem.W.codeRec_of hK hcd) (hb _ _ _ _ ?_)
  refine wpAny_newFunctionEnv_cells S.kind ?_ ?_
  · intro y hy
    rcases S.par y.1 (List.of_mem_zip hy).1 with q | q
    · exact Or.inl q
    · exact Or.inr ⟨q, PySem.W.cellsFrom_some _ _ _ (Or.inl q)⟩
  · intro env henv s1 ic
    cases henv
    refine ⟨hlim.keeps ic.toInCall.keep, codeAny_func ?_⟩
    obtain ⟨t, ht, hq⟩ := body cdv A out s H vs Q rfl hr hgu hsp
    have I := inv_start (CX := CX0) (E := E0) S hr.hd e0 hl r ic
    refine wpAny_mono (ht.nox.run [] s1 (start N vs) H _ I hq) ?_ (fun e s' he => he)
    intro fl s' hfl
    cases fl with
    | ret u =>
      obtain ⟨v, σ', H', J, rv, q⟩ := hfl
      exact ⟨v, H', J.os, J.bare, J.base, J.hok, rv, q⟩
    | next =>
      obtain ⟨σ', H', J, q⟩ := hfl
      exact ⟨.non, H', J.os, J.bare, J.base, J.hok, rfl, q⟩
    | brk => obtain ⟨_, _, _, q⟩ := hfl; exact False.elim q
    | cont => obtain ⟨_, _, _, q⟩ := hfl; exact False.elim q
theorem FnG.none {P : Program} {w : World} {K : PySem.W.Frag} {mg : Str → Option Value} {base : Heap} {k : Nat} {f : Addr} {fd : FuncData} {ps : List Str} {sp : Spq} (h : ∀ vs H Q, ¬ sp vs H Q) : FnG P w K mg base k f fd ps sp :=
  ⟨fun vs H Q q => absurd q (h vs H Q), fun _ _ _ _ _ _ _ _ _ _ _ _ _ q => absurd q (h _ _ _)⟩
theorem FnG.mono {P : Program} {w : World} {K : PySem.W.Frag} {mg : Str → Option Value} {base : Heap} {j k : Nat} {f : Addr} {fd : FuncData} {ps : List Str} {sp : Spq} (F : FnG P w K mg base j f fd ps sp) (h : j ≤ k) : FnG P w K mg base k f fd ps sp :=
  ⟨F.len, fun A out s H args us vs Q hr => F.run A out s H args us vs Q (hr.mono h)⟩
end Mi
end
section
/-! Mi, part 9: expressions. -/
namespace Mi
open PySem PySem.Spec PyProof.Rows L2

/-- names of a text: defs with their parameters, constants, built-ins that stand as they are, calls by keywords -/
structure Gam where
  fns : List Str
  par : List (List Str)
  gls : List Str
  bts : List Str
  kws : List (Nat × Nat × List Str × List Nat)
/-- a def's promise: what it does -/
def spR (K : PySem.W.Frag) (ts : List Addr) (R : Run) (f : Nat) : Spq := fun vs H Q => ∃ bs b m ds st, bs.ts = ts ∧ Wf K bs m st H ∧ (∀ c ∈ bs, c ≤ b) ∧ RDL K m st.length H ds vs ∧ Ok K bs (RD K) m st.length H Q (R f ds b st)
structure GF (P : Program) (w : World) (K : PySem.W.Frag) (mg : Str → Option Value) (base : Heap) (Γ : Gam) (R : Rt) (k : Nat) (ts : List Addr) : Prop where
  fn : ∀ (f : Nat) (x : Str), Γ.fns[f]? = some x → ∃ (a : Addr) (fd : FuncData) (ps : List Str), Γ.par[f]? = some ps ∧ mg x = some (.ref a) ∧ PySem.W.keepIn K (.ref a) = true ∧ Binds K fd ps [] ∧ FnG P w K mg base k a fd ps (spR K ts R.call f) ∧
    ∀ (np : Nat) (ks : List Str) (perm : List Nat), (f, np, ks, perm) ∈ Γ.kws → ∀ (s : Shared) (us ws zs : List Value), K.In s.heap → us.length = np → ws.length = ks.length → pick (us ++ ws) perm = some zs → BindsTo s fd ⟨us, ks.zip ws⟩ (ps.zip zs)
  gl : ∀ (j : Nat) (x : Str) (d : D), Γ.gls[j]? = some x → R.gl[j]? = some d → ∃ (u : Value) (v : V), mg x = some u ∧ RelV v u ∧ ∀ (m : Nat → Addr) (n : Nat) (H : Hp), RD K m n H d v
  bt : ∀ x : Str, x ∈ Γ.bts → mg x = none
/-- where the code stands -/
structure XF (X : Cx) (N : List Str) (sc os : Scope) (k : Nat) : Prop where
  room : Room k X.A
  gd : X.A.guards = some []
  calm : X.calm = true
  nd : X.N.Nodup
  hN : X.N = N
  hs : X.env.scope = sc
  own : ∀ x, (os.names.lookup x = some .local → sc.names.lookup x = some .local) ∧ (os.names.lookup x = some .cell → sc.names.lookup x = some .cell ∧ X.fn x = true)
  xe : X.xe = fun _ _ => False
theorem XF.un {X : Cx} {N : List Str} {sc os : Scope} {k : Nat} (F : XF X N sc os k) : X.A.units + 65 < cLine := by
  have h := F.room.un
  omega

section
variable {X : Cx} {bs : Bs} {R : Rt} {b : Nat}
abbrev PEd (X : Cx) (bs : Bs) (f : Sg → Store → Res D) (e : Expr) : Prop := PE X e (tE X.K bs f)
abbrev PTd (X : Cx) (bs : Bs) (f : Sg → Store → Res Bool) (e : Expr) : Prop := PT X e (tT X.K bs f)
abbrev PAd (X : Cx) (bs : Bs) (f : Sg → Store → Res (List D)) (es : List Expr) : Prop := PA X es (tA X.K bs f)
theorem RS.at {K : PySem.W.Frag} {m : Nat → Addr} {n : Nat} {H : Hp} {σd : Sg} {σ : L2.St} {i : Nat} {d : D} (r : RS K m n H σd σ) (h : getS σd i = some d) : ∃ v, σ[i]? = some (some v) ∧ RD K m n H d v := by
  unfold getS at h
  split at h
  · rename_i d' hd
    cases h
    exact r.get i d hd
  · cases h
theorem ed_var {i : Nat} {x : Str} {pos : Pos} (hN : X.N[i]? = some x) (hv : Vis X.env.scope x) (hd : (x == ("__debug__" : Str)) = false) (hcd : (x == ("__classdict__" : Str)) = false) : PEd X bs (ev R b (.var i)) (.Name x pos) := by
  refine PE.by (pe_var hN hv hd hcd) ?_
  intro σ H Q h
  obtain ⟨m, σd, st, W, r, q⟩ := h
  have q' : Ok X.K bs (RD X.K) m st.length H Q (some_ (getS σd i) st) := by unfold ev at q; exact q
  obtain ⟨d, e, q2⟩ := q'.some_
  obtain ⟨v, hv', hr⟩ := r.at e
  exact ⟨v, hv', q2.at W hr⟩
theorem ed_int {i : Int} {j : Nat} {pos : Pos} : PEd X bs (ev R b (.cint i)) (.Constant (.int i) j pos) := by
  refine PE.by pe_int ?_
  intro σ H Q h
  obtain ⟨m, σd, st, W, r, q⟩ := h
  unfold ev at q
  exact q.at W (by unfold RD; rfl)
theorem ed_str {i : Str} {j : Nat} {pos : Pos} : PEd X bs (ev R b (.cstr i)) (.Constant (.str i) j pos) := by
  refine PE.by pe_str ?_
  intro σ H Q h
  obtain ⟨m, σd, st, W, r, q⟩ := h
  unfold ev at q
  exact q.at W (by unfold RD; rfl)
theorem ed_bl {i : Bool} {j : Nat} {pos : Pos} : PEd X bs (ev R b (.cbl i)) (.Constant (.bool i) j pos) := by
  refine PE.by pe_bl ?_
  intro σ H Q h
  obtain ⟨m, σd, st, W, r, q⟩ := h
  unfold ev at q
  exact q.at W (by unfold RD; rfl)
theorem ed_non {j : Nat} {pos : Pos} : PEd X bs (ev R b .cnon) (.Constant .none j pos) := by
  refine PE.by pe_non ?_
  intro σ H Q h
  obtain ⟨m, σd, st, W, r, q⟩ := h
  unfold ev at q
  exact q.at W (by unfold RD; rfl)
theorem ed_gl {Γ : Gam} {k : Nat} (G : GF X.prog X.w X.K X.mg X.base Γ R k bs.ts) {x : Str} {j : Nat} {pos : Pos} (hj : Γ.gls[j]? = some x) (hg : Gl X x) (hd : (x == ("__debug__" : Str)) = false) : PEd X bs (ev R b (.gl x j)) (.Name x pos) := by
  refine ⟨fun pins s σ H Q I h => ?_⟩
  obtain ⟨m, σd, st, W, r, q⟩ := h
  have q' : Ok X.K bs (RD X.K) m st.length H Q (some_ (R.gl[j]?) st) := by unfold ev at q; exact q
  obtain ⟨d, e, q2⟩ := q'.some_
  obtain ⟨u, v, hm, rv, hr⟩ := G.gl j x d hj e
  exact (pe_glob hg hm rv hd).run pins s σ H Q I (q2.at W (hr _ _ _))
theorem ed_bty {Γ : Gam} {k : Nat} (G : GF X.prog X.w X.K X.mg X.base Γ R k bs.ts) {t : Bt} {pos : Pos} (hb : Str.ofString t.name ∈ Γ.bts) (hg : Gl X (Str.ofString t.name)) : PEd X bs (ev R b (.bty t)) (.Name (Str.ofString t.name) pos) := by
  have hv : bootBuiltins (Str.ofString t.name) = some (.type t.name) := by cases t <;> decide +kernel
  refine PE.by (pe_bltn (v := .ty t.name) hg (G.bt _ hb) hv rfl (by cases t <;> decide +kernel) (by cases t <;> decide +kernel)) ?_
  intro σ H Q h
  obtain ⟨m, σd, st, W, r, q⟩ := h
  unfold ev at q
  exact q.at W (by unfold RD; rfl)
/-- two parts, then the rest -/
theorem ok_two {K : PySem.W.Frag} {α β : Type} {rel : Rl α β} {m : Nat → Addr} {H : Hp} {Q : β → Hp → Prop} {σd : Sg} {σ : L2.St} {st : Store} {fa fb : Sg → Store → Res D} {g : D → D → Store → Res α} (W : Wf K bs m st H) (r : RS K m st.length H σd σ)
    (q : Ok K bs rel m st.length H Q ((fa σd st).bind fun d1 st1 => (fb σd st1).bind fun d2 st2 => g d1 d2 st2)) :
    tE K bs fa σ H fun x H1 => tE K bs fb σ H1 fun y H2 => ∃ m2 st2 d1 d2, Stp m st.length H m2 st2.length H2 ∧ Wf K bs m2 st2 H2 ∧ RS K m2 st2.length H2 σd σ ∧ RD K m2 st2.length H2 d1 x ∧ RD K m2 st2.length H2 d2 y ∧ Ok K bs rel m2 st2.length H2 Q (g d1 d2 st2) := by
  refine ⟨m, σd, st, W, r, (q.bind (rel := RD K)).mono ?_⟩
  intro x H1 h1
  obtain ⟨m1, st1, d1, s1, W1, r1, q1⟩ := h1
  refine ⟨m1, σd, st1, W1, r.step s1, (q1.bind (rel := RD K)).mono ?_⟩
  intro y H2 h2
  obtain ⟨m2, st2, d2, s2, W2, r2, q2⟩ := h2
  exact ⟨m2, st2, d1, d2, s1.trans s2, W2, (r.step s1).step s2, r1.step s2 _ _, r2, q2⟩
/-- by value, as it is now -/
theorem RD.frz {K : PySem.W.Frag} {m : Nat → Addr} {st : Store} {H : Hp} {b : Nat} (W : Wf K bs m st H) (hb : b ≤ st.length) : ∀ (k : Nat) (d d' : D) (v : V), RD K m st.length H d v → frz b st k d = some d' → RD K m b H d' v
  | 0, d, d', v, _, e => by
    unfold Mi.frz at e
    cases e
  | k + 1, d, d', v, r, e => by
    have off : ∀ {p : Addr}, Off m st.length p → Off m b p := fun o i hi => o i (Nat.lt_of_lt_of_le hi hb)
    have offm : ∀ {i : Nat}, i < st.length → ¬ i < b → Off m b (m i) := fun hi hn j hj z => hn ((W.inj j _ (Nat.lt_of_lt_of_le hj hb) hi z) ▸ hj)
    have L : ∀ (xs ys : List D) (vs : List V), RDL K m st.length H xs vs → mapO (Mi.frz b st k) xs = some ys → RDL K m b H ys vs := by
      intro xs
      induction xs with
      | nil =>
        intro ys vs r e
        unfold mapO at e
        cases e
        unfold RDL at r
        subst r
        exact RDL.nil
      | cons x xs ih =>
        intro ys vs r e
        unfold mapO at e
        split at e
        · rename_i a l h1 h2
          cases e
          unfold RDL at r
          obtain ⟨w, vs', rfl, r1, r2⟩ := r
          exact RDL.cons (RD.frz W hb k x a w r1 h1) (ih l vs' r2 h2)
        · cases e
    unfold Mi.frz at e
    cases d with
    | tup xs =>
      simp only at e
      split at e
      · rename_i l hl
        cases e
        unfold RD at r ⊢
        obtain ⟨p, vs, e1, h1, h2⟩ := r
        refine ⟨p, vs, e1, ?_, L _ _ _ h2 hl⟩
        rcases h1 with ⟨its, h1, o⟩ | h1
        · exact .inl ⟨its, h1, off o⟩
        · exact .inr h1
      · cases e
    | lst xs =>
      simp only at e
      split at e
      · rename_i l hl
        cases e
        unfold RD at r ⊢
        obtain ⟨p, vs, e1, h1, o, h2⟩ := r
        exact ⟨p, vs, e1, h1, off o, L _ _ _ h2 hl⟩
      · cases e
    | dct ks xs =>
      simp only at e
      split at e
      · rename_i l hl
        cases e
        unfold RD at r ⊢
        obtain ⟨p, kk, vs, e1, h1, o, h3, h4, h2⟩ := r
        exact ⟨p, kk, vs, e1, h1, off o, h3, h4, L _ _ _ h2 hl⟩
      · cases e
    | loc i =>
      simp only at e
      unfold RD at r
      obtain ⟨hi, rfl⟩ := r
      split at e
      · rename_i hib
        cases e
        unfold RD
        exact ⟨hib, rfl⟩
      · rename_i hib
        split at e
        · rename_i xs hs
          split at e
          · rename_i l hl
            cases e
            obtain ⟨vs, e1, e2⟩ := W.ob i _ hs
            unfold RD
            exact ⟨m i, vs, rfl, e1, offm hi hib, L _ _ _ e2 hl⟩
          · cases e
        · rename_i ks xs hs
          split at e
          · rename_i l hl
            cases e
            obtain ⟨kk, vs, e1, e3, e4, e2⟩ := W.ob i _ hs
            unfold RD
            exact ⟨m i, kk, vs, rfl, .inl e1, offm hi hib, e3, e4, L _ _ _ e2 hl⟩
          · cases e
        · cases e
    | scr ns =>
      cases e
      unfold RD at r ⊢
      obtain ⟨p, e1, h1⟩ := r
      refine ⟨p, e1, ?_⟩
      rcases h1 with ⟨o, h1, h2⟩ | h1
      · exact .inl ⟨o, h1, off h2⟩
      · exact .inr h1
    | non => cases e; unfold RD at r ⊢; exact r
    | bl _ => cases e; unfold RD at r ⊢; exact r
    | int _ => cases e; unfold RD at r ⊢; exact r
    | str _ => cases e; unfold RD at r ⊢; exact r
    | ref _ => cases e; unfold RD at r ⊢; exact r
    | ty _ => cases e; unfold RD at r ⊢; exact r
theorem RD.rn0 {K : PySem.W.Frag} {m : Nat → Addr} {H : Hp} {d : D} {v : V} (h : RD K m 0 H d v) : Rn K m 0 H d v := by
  cases d with
  | lst ds =>
    unfold RD at h
    obtain ⟨p, vs, e1, e2, _, e3⟩ := h
    exact ⟨p, vs, e1, e2, e3⟩
  | dct ks ds =>
    unfold RD at h
    obtain ⟨p, kk, vs, e1, e2, _, e3, e4, e5⟩ := h
    exact ⟨p, kk, vs, e1, e2, e3, e4, e5⟩
  | tup ds => exact h
  | scr ns => exact h
  | loc i => exact h
  | ref a => exact h
  | non => exact h
  | bl _ => exact h
  | int _ => exact h
  | str _ => exact h
  | ty _ => exact h
theorem eqLen_eqD {x y : D} {c : Bool} (h : eqLen x y = some c) : eqD x y = some c := by
  unfold eqLen at h
  split at h
  · rename_i xs ys
    unfold eqD
    split at h
    · rename_i hl
      split at h
      · rename_i he
        cases h
        have e1 := List.isEmpty_iff.mp he
        subst e1
        have e2 : ys = [] := List.eq_nil_of_length_eq_zero hl.symm
        subst e2
        rfl
      · cases h
    · rename_i hl
      cases h
      show (if xs.length = ys.length then (match eqFlat xs ys with
        | some c => some c
        | none => eqP (.lst xs) (.lst ys)) else some false) = some false
      rw [if_neg hl]
  · cases h
    rfl
  · cases h
theorem eqF_rn {K : PySem.W.Frag} {m : Nat → Addr} {st : Store} {H : Hp} {d1 d2 : D} {x y : V} {c : Bool} (W : Wf K bs m st H) (r1 : RD K m st.length H d1 x) (r2 : RD K m st.length H d2 y) (e : eqF st d1 d2 = some c) :
    ∃ (n' : Nat) (a b' : D), Rn K m n' H a x ∧ Rn K m n' H b' y ∧ eqD a b' = some c := by
  unfold eqF at e
  split at e
  · rename_i i j
    exact ⟨st.length, .int i, .int j, r1, r2, e⟩
  · rename_i i j
    exact ⟨st.length, .str i, .str j, r1, r2, e⟩
  · split at e
    · rename_i a b' h1 h2
      exact ⟨0, a, b', (RD.frz W (Nat.zero_le _) _ _ _ _ r1 h1).rn0, (RD.frz W (Nat.zero_le _) _ _ _ _ r2 h2).rn0, e⟩
    · cases e
theorem eqS_rn {K : PySem.W.Frag} {m : Nat → Addr} {st : Store} {H : Hp} {d1 d2 : D} {x y : V} {c : Bool} (W : Wf K bs m st H) (r1 : RD K m st.length H d1 x) (r2 : RD K m st.length H d2 y) (e : eqS st d1 d2 = some c) :
    ∃ (n' : Nat) (a b' : D), Rn K m n' H a x ∧ Rn K m n' H b' y ∧ eqD a b' = some c := by
  unfold eqS at e
  split at e
  · rename_i k hk
    cases e
    exact ⟨_, _, _, r1.now W, r2.now W, eqLen_eqD hk⟩
  · exact eqF_rn W r1 r2 e
theorem cmpS_rn {K : PySem.W.Frag} {m : Nat → Addr} {st : Store} {H : Hp} {op : CmpOp} {d1 d2 : D} {x y : V} {c : Bool} (W : Wf K bs m st H) (r1 : RD K m st.length H d1 x) (r2 : RD K m st.length H d2 y) (e : cmpS op st d1 d2 = some c) :
    ∃ (n' : Nat) (a b' : D), Rn K m n' H a x ∧ Rn K m n' H b' y ∧ cmpD op a b' = some c := by
  cases op with
  | Eq =>
    obtain ⟨n', a, b', h1, h2, h3⟩ := eqS_rn W r1 r2 e
    exact ⟨n', a, b', h1, h2, h3⟩
  | NotEq =>
    have e' : (eqS st d1 d2).map not = some c := e
    cases h : eqS st d1 d2 with
    | none => rw [h] at e'; cases e'
    | some k =>
      rw [h] at e'
      obtain ⟨n', a, b', h1, h2, h3⟩ := eqS_rn W r1 r2 h
      exact ⟨n', a, b', h1, h2, by unfold cmpD; simp only; rw [h3]; exact e'⟩
  | _ => exact ⟨_, _, _, r1.now W, r2.now W, e⟩
theorem tX.mono {K : PySem.W.Frag} {α β : Type} {rel : Rl α β} {f : Sg → Store → Res α} {σ : L2.St} {H : Hp} {Q Q' : β → Hp → Prop} (h : tX K bs rel f σ H Q) (hq : ∀ v H', Q v H' → Q' v H') : tX K bs rel f σ H Q' := by
  obtain ⟨m, σd, st, W, r, q⟩ := h
  exact ⟨m, σd, st, W, r, q.mono hq⟩
theorem ed_tup {es : E} {xs : List Expr} {k : Nat} {pos : Pos} (h : PAd X bs (evA R b es) xs) : PEd X bs (ev R b (.tup es)) (.Tuple xs k pos) := by
  refine PE.by (pe_tupN h) ?_
  intro σ H Q hh
  obtain ⟨m, σd, st, W, r, q⟩ := hh
  have q' : Ok X.K bs (RD X.K) m st.length H Q ((evA R b es σd st).bind fun ds st1 => if fits ds then .ok (.tup ds) st1 else .bad) := by unfold ev at q; exact q
  refine ⟨m, σd, st, W, r, (q'.bind (rel := RDL X.K)).mono ?_⟩
  intro vs H1 h1
  obtain ⟨m1, st1, ds, s1, W1, r1, q1⟩ := h1
  split at q1
  · rename_i hf
    exact ⟨by rw [← r1.len]; exact fits_le hf, Ok.new_tup W1 r1 q1⟩
  · exact q1.elim
theorem ed_lst {own : Bool} {es : E} {xs : List Expr} {pos : Pos} (h : PAd X bs (evA R b es) xs) : PEd X bs (ev R b (.lst own es)) (.List xs pos) := by
  refine PE.by (pe_lst h) ?_
  intro σ H Q hh
  obtain ⟨m, σd, st, W, r, q⟩ := hh
  have q' : Ok X.K bs (RD X.K) m st.length H Q ((evA R b es σd st).bind fun ds st1 => (PR.newL ds).fin own st1) := by unfold ev at q; exact q
  refine ⟨m, σd, st, W, r, (q'.bind (rel := RDL X.K)).mono ?_⟩
  intro vs H1 h1
  obtain ⟨m1, st1, ds, s1, W1, r1, q1⟩ := h1
  exact Ok.fin_new W1 r1 q1
theorem ed_dnew {own : Bool} {pos : Pos} : PEd X bs (ev R b (.dnew own)) (.Dict [] [] pos) := by
  refine PE.by pe_dnewK ?_
  intro σ H Q hh
  obtain ⟨m, σd, st, W, r, q⟩ := hh
  unfold ev at q
  exact Ok.fin_newD W q
theorem ed_bin {own : Bool} {op : Operator} {x y : E} {ex ey : Expr} {pos : Pos} (hx : PEd X bs (ev R b x) ex) (hy : PEd X bs (ev R b y) ey) : PEd X bs (ev R b (.bin own op x y)) (.BinOp ex op ey pos) := by
  refine PE.by (pe_op or_bin hx hy) ?_
  intro σ H Q hh
  obtain ⟨m, σd, st, W, r, q⟩ := hh
  have q' : Ok X.K bs (RD X.K) m st.length H Q ((ev R b x σd st).bind fun d1 st1 => (ev R b y σd st1).bind fun d2 st2 => (binD op (der st2 d1) (der st2 d2)).fin own st2) := by unfold ev at q; exact q
  refine tX.mono (ok_two (rel := RD X.K) (g := fun d1 d2 st2 => (binD op (der st2 d1) (der st2 d2)).fin own st2) W r q') ?_
  intro v1 H1 h1
  refine tX.mono h1 ?_
  intro v2 H2 h2
  obtain ⟨m2, st2, d1, d2, _, W2, _, r1, r2, q2⟩ := h2
  exact ⟨bs, m2, st2, _, _, own, W2, r1.now W2, r2.now W2, q2⟩
theorem ed_neg {x : E} {ex : Expr} {pos : Pos} (hx : PEd X bs (ev R b x) ex) : PEd X bs (ev R b (.neg x)) (.UnaryOp .USub ex pos) := by
  refine PE.by (pe_un un_neg hx) ?_
  intro σ H Q hh
  obtain ⟨m, σd, st, W, r, q⟩ := hh
  have q' : Ok X.K bs (RD X.K) m st.length H Q ((ev R b x σd st).bind fun d st1 => (asI d st1).bind fun i st2 => .ok (.int (-i)) st2) := by unfold ev at q; exact q
  refine ⟨m, σd, st, W, r, (q'.bind (rel := RD X.K)).mono ?_⟩
  intro v H1 h1
  obtain ⟨m1, st1, d, s1, W1, r1, q1⟩ := h1
  unfold asI at q1
  split at q1
  · unfold RD at r1
    exact ⟨_, r1, q1.at W1 (by unfold RD; rfl)⟩
  · exact q1.elim
theorem ed_cmp {N : List Str} {sc os : Scope} {k : Nat} (F : XF X N sc os k) {op : CmpOp} {x y : E} {ex ey : Expr} {pos : Pos} (hx : PEd X bs (ev R b x) ex) (hy : PEd X bs (ev R b y) ey) (hm : behindInMarks op ey = false) : PEd X bs (ev R b (.cmp op x y)) (.Compare ex [op] [ey] pos) := by
  refine PE.by (pe_cmpR (r := fun x y H Q => ∃ m n d1 d2 c, Rn X.K m n H d1 x ∧ Rn X.K m n H d2 y ∧ cmpD op d1 d2 = some c ∧ Q (.bl c) H) ?_ hx hy hm) ?_
  · intro pins s σ H x y v u Q I rx ry h
    obtain ⟨m, n, d1, d2, c, h1, h2, e, q⟩ := h
    exact or_cmp F.un I rx ry h1 h2 e q
  · intro σ H Q hh
    obtain ⟨m, σd, st, W, r, q⟩ := hh
    have q' : Ok X.K bs (RD X.K) m st.length H Q ((ev R b x σd st).bind fun d1 st1 => (ev R b y σd st1).bind fun d2 st2 => (some_ (cmpS op st2 d1 d2) st2).bind fun c st3 => .ok (.bl c) st3) := by unfold ev at q; exact q
    refine tX.mono (ok_two (rel := RD X.K) (g := fun d1 d2 st2 => (some_ (cmpS op st2 d1 d2) st2).bind fun c st3 => .ok (.bl c) st3) W r q') ?_
    intro v1 H1 h1
    refine tX.mono h1 ?_
    intro v2 H2 h2
    obtain ⟨m2, st2, d1, d2, _, W2, _, r1, r2, q2⟩ := h2
    obtain ⟨c, e, q3⟩ := q2.bindS
    obtain ⟨n', a, b', g1, g2, g3⟩ := cmpS_rn W2 r1 r2 e
    exact ⟨m2, n', a, b', c, g1, g2, g3, q3.at W2 (by unfold RD; rfl)⟩
theorem ed_cmp2 {N : List Str} {sc os : Scope} {k : Nat} (F : XF X N sc os k) {op op' : CmpOp} {x y z : E} {ex ey ez : Expr} {pos : Pos} (hx : PEd X bs (ev R b x) ex) (hy : PEd X bs (ev R b y) ey) (hz : PEd X bs (ev R b z) ez) (hm : lastMarks [op, op'] [ey, ez] = false) :
    PEd X bs (ev R b (.cmp2 op op' x y z)) (.Compare ex [op, op'] [ey, ez] pos) := by
  have rule : ∀ o : CmpOp, OpR X (compareOp o) (fun x y H Q => ∃ m n d1 d2 c, Rn X.K m n H d1 x ∧ Rn X.K m n H d2 y ∧ cmpD o d1 d2 = some c ∧ Q (.bl c) H) := by
    intro o pins s σ H x y v u Q I rx ry h
    obtain ⟨m, n, d1, d2, c, h1, h2, e, q⟩ := h
    exact or_cmp F.un I rx ry h1 h2 e q
  refine PE.by (pe_chain (rule op) (rule op') hx hy hz hm) ?_
  intro σ H Q hh
  obtain ⟨m, σd, st, W, r, q⟩ := hh
  have q' : Ok X.K bs (RD X.K) m st.length H Q ((ev R b x σd st).bind fun d1 st1 => (ev R b y σd st1).bind fun d2 st2 => (some_ (cmpS op st2 d1 d2) st2).bind fun c st3 =>
      match c with
      | false => .ok (.bl false) st3
      | true => (ev R b z σd st3).bind fun d3 st4 => (some_ (cmpS op' st4 d2 d3) st4).bind fun c st5 => .ok (.bl c) st5) := by unfold ev at q; exact q
  refine tX.mono (ok_two (rel := RD X.K) (g := fun d1 d2 st2 => (some_ (cmpS op st2 d1 d2) st2).bind fun c st3 =>
      match c with
      | false => .ok (.bl false) st3
      | true => (ev R b z σd st3).bind fun d3 st4 => (some_ (cmpS op' st4 d2 d3) st4).bind fun c st5 => .ok (.bl c) st5) W r q') ?_
  intro v1 H1 h1
  refine tX.mono h1 ?_
  intro v2 H2 h2
  obtain ⟨m2, st2, d1, d2, _, W2, rs2, r1, r2, q2⟩ := h2
  obtain ⟨c, e, q3⟩ := q2.bindS
  obtain ⟨n', a, b', g1, g2, g3⟩ := cmpS_rn W2 r1 r2 e
  refine ⟨m2, n', a, b', c, g1, g2, g3, c, rfl, ?_⟩
  cases c with
  | false =>
    rw [if_neg Bool.false_ne_true]
    exact q3.at W2 (by unfold RD; rfl)
  | true =>
    rw [if_pos rfl]
    have q4 : Ok X.K bs (RD X.K) m2 st2.length H2 Q ((ev R b z σd st2).bind fun d3 st4 => (some_ (cmpS op' st4 d2 d3) st4).bind fun c st5 => .ok (.bl c) st5) := q3
    refine ⟨m2, σd, st2, W2, rs2, (q4.bind (rel := RD X.K)).mono ?_⟩
    intro v3 H3 h3
    obtain ⟨m3, st3, d3, s3, W3, r3, q5⟩ := h3
    obtain ⟨c', e', q6⟩ := q5.bindS
    obtain ⟨n', a, b', g1, g2, g3⟩ := cmpS_rn W3 (r2.step s3 _ _) r3 e'
    exact ⟨m3, n', a, b', c', g1, g2, g3, q6.at W3 (by unfold RD; rfl)⟩
theorem ed_one {op : BoolOp} {x : E} {ex : Expr} {pos : Pos} (hx : PEd X bs (ev R b x) ex) : PEd X bs (ev R b (.one x)) (.BoolOp op [ex] pos) := by
  refine PE.by (pe_one hx) ?_
  intro σ H Q hh
  obtain ⟨m, σd, st, W, r, q⟩ := hh
  exact ⟨m, σd, st, W, r, by unfold ev at q; exact q⟩
theorem ed_and {x y : E} {ex ey : Expr} {es : List Expr} {pos : Pos} (hx : PEd X bs (ev R b x) ex) (hy : PEd X bs (ev R b y) (.BoolOp .And (ey :: es) pos)) : PEd X bs (ev R b (.and x y)) (.BoolOp .And (ex :: ey :: es) pos) := by
  refine PE.by (pe_and hx hy) ?_
  intro σ H Q hh
  obtain ⟨m, σd, st, W, r, q⟩ := hh
  have q' : Ok X.K bs (RD X.K) m st.length H Q ((ev R b x σd st).bind fun d st1 => (asB d st1).bind fun c st2 =>
      match c with
      | false => .ok (.bl false) st2
      | true => ev R b y σd st2) := by unfold ev at q; exact q
  refine ⟨m, σd, st, W, r, (q'.bind (rel := RD X.K)).mono ?_⟩
  intro v H1 h1
  obtain ⟨m1, st1, d, s1, W1, r1, q1⟩ := h1
  unfold asB at q1
  split at q1
  · rename_i c
    unfold RD at r1
    refine ⟨c, r1, ?_⟩
    cases c with
    | false =>
      rw [if_neg Bool.false_ne_true]
      exact q1.at W1 (by unfold RD; rfl)
    | true =>
      rw [if_pos rfl]
      exact ⟨m1, σd, st1, W1, r.step s1, q1⟩
  · exact q1.elim
theorem ed_or {x y : E} {ex ey : Expr} {es : List Expr} {pos : Pos} (hx : PEd X bs (ev R b x) ex) (hy : PEd X bs (ev R b y) (.BoolOp .Or (ey :: es) pos)) : PEd X bs (ev R b (.or x y)) (.BoolOp .Or (ex :: ey :: es) pos) := by
  refine PE.by (pe_or hx hy) ?_
  intro σ H Q hh
  obtain ⟨m, σd, st, W, r, q⟩ := hh
  have q' : Ok X.K bs (RD X.K) m st.length H Q ((ev R b x σd st).bind fun d st1 => (asB d st1).bind fun c st2 =>
      match c with
      | true => .ok (.bl true) st2
      | false => ev R b y σd st2) := by unfold ev at q; exact q
  refine ⟨m, σd, st, W, r, (q'.bind (rel := RD X.K)).mono ?_⟩
  intro v H1 h1
  obtain ⟨m1, st1, d, s1, W1, r1, q1⟩ := h1
  unfold asB at q1
  split at q1
  · rename_i c
    unfold RD at r1
    refine ⟨c, r1, ?_⟩
    cases c with
    | true =>
      rw [if_pos rfl]
      exact q1.at W1 (by unfold RD; rfl)
    | false =>
      rw [if_neg Bool.false_ne_true]
      exact ⟨m1, σd, st1, W1, r.step s1, q1⟩
  · exact q1.elim
theorem ed_not {x : E} {ex : Expr} {pos : Pos} (hx : PEd X bs (ev R b x) ex) : PEd X bs (ev R b (.not x)) (.UnaryOp .Not ex pos) := by
  refine PE.by (pe_not hx) ?_
  intro σ H Q hh
  obtain ⟨m, σd, st, W, r, q⟩ := hh
  have q' : Ok X.K bs (RD X.K) m st.length H Q ((ev R b x σd st).bind fun d st1 => (asB d st1).bind fun c st2 => .ok (.bl (!c)) st2) := by unfold ev at q; exact q
  refine ⟨m, σd, st, W, r, (q'.bind (rel := RD X.K)).mono ?_⟩
  intro v H1 h1
  obtain ⟨m1, st1, d, s1, W1, r1, q1⟩ := h1
  unfold asB at q1
  split at q1
  · rename_i c
    unfold RD at r1
    exact ⟨c, r1, q1.at W1 (by unfold RD; rfl)⟩
  · exact q1.elim
theorem ed_ite {c x y : E} {ec ex ey : Expr} {pos : Pos} (hc : PTd X bs (evT R b c) ec) (hx : PEd X bs (ev R b x) ex) (hy : PEd X bs (ev R b y) ey) : PEd X bs (ev R b (.ite c x y)) (.IfExp ec ex ey pos) := by
  refine PE.by (pe_ifExp hc hx hy) ?_
  intro σ H Q hh
  obtain ⟨m, σd, st, W, r, q⟩ := hh
  have q' : Ok X.K bs (RD X.K) m st.length H Q ((evT R b c σd st).bind fun c st1 =>
      match c with
      | true => ev R b x σd st1
      | false => ev R b y σd st1) := by unfold ev at q; exact q
  refine ⟨m, σd, st, W, r, (q'.bind (rel := rB)).mono ?_⟩
  intro v H1 h1
  obtain ⟨m1, st1, d, s1, W1, r1, q1⟩ := h1
  have r1' : v = d := r1
  subst r1'
  cases v with
  | true =>
    rw [if_pos rfl]
    exact ⟨m1, σd, st1, W1, r.step s1, q1⟩
  | false =>
    rw [if_neg Bool.false_ne_true]
    exact ⟨m1, σd, st1, W1, r.step s1, q1⟩
theorem ed_ix {N : List Str} {sc os : Scope} {k : Nat} (F : XF X N sc os k) {x y : E} {ex ey : Expr} {pos : Pos} (hx : PEd X bs (ev R b x) ex) (hy : PEd X bs (ev R b y) ey) (hs : PlainIx ey) : PEd X bs (ev R b (.ix x y)) (.Subscript ex ey pos) := by
  refine ⟨fun pins s σ H Q I hh => ?_⟩
  obtain ⟨m, σd, st, W, r, q⟩ := hh
  have q' : Ok X.K bs (RD X.K) m st.length H Q ((ev R b x σd st).bind fun d1 st1 => (ev R b y σd st1).bind fun d2 st2 => (ixD (der st2 d1) d2).fin false st2) := by unfold ev at q; exact q
  have h2 := ok_two (rel := RD X.K) (g := fun d1 d2 st2 => (ixD (der st2 d1) d2).fin false st2) W r q'
  refine Subscript_ (binT hx hy I h2 ?_)
  intro v u s2 x' y' H2 I2 rx ry hq
  obtain ⟨m2, st2, d1, d2, _, W2, _, r1, r2, q2⟩ := hq
  by_cases hd : ∃ ks vs, der st2 d1 = .dct ks vs
  · obtain ⟨ks, vs, hd⟩ := hd
    have g1 := r1.now W2
    rw [hd] at g1 q2
    unfold ixD at q2
    simp only at q2
    split at q2
    · rename_i kk hk
      obtain ⟨a, o, rfl, g, _, hget⟩ := Rn.dget (k := d2) (y := y') g1 (by
        have e := keyOf_some hk
        subst e
        cases kk with
        | inl i => exact r2
        | inr z => exact r2) hk
      obtain rfl : v = Value.ref a := rx
      rcases hget with ⟨h1, _⟩ | ⟨d, w, h1, h3, h4⟩
      · rw [h1] at q2
        exact q2.elim
      · rw [h1] at q2
        rw [h3] at g
        refine tail_any (dict_typeIs I2 g) PySem.F.slot_dict_getitem.lookup (d_getItem (by have := F.un; omega) I2 g ry fun w' s3 I3 rw' => ⟨w, H2, I3, rw', q2.at W2 h4⟩) (hs _ _)
    · exact q2.elim
  · exact ir_ix ex ey pins s2 σ H2 x' y' v u Q I2 rx ry ⟨bs, m2, st2, _, _, W2, r1.now W2, r2, fun ks vs e => hd ⟨ks, vs, e⟩, q2⟩ (hs _ _)
end
end Mi
end
section
/-! Mi, part 10: arguments, tests, slices, calls. -/
namespace Mi
open PySem PySem.Spec PyProof.Rows L2

section
variable {X : Cx} {bs : Bs} {R : Rt} {b : Nat}
/-! ### arguments -/
theorem ea_nil : PAd X bs (evA R b .nil) [] := by
  refine PA.by pa_nil ?_
  intro σ H Q h
  obtain ⟨m, σd, st, W, r, q⟩ := h
  have q' : Ok X.K bs (RDL X.K) m st.length H Q (.ok [] st) := by unfold evA at q; exact q
  exact q'.at W RDL.nil
theorem ea_cons {e : E} {es : E} {x : Expr} {xs : List Expr} (h : PEd X bs (ev R b e) x) (hr : PAd X bs (evA R b es) xs) (hs : starEach (x :: xs) X.env = (false, eval x X.env) :: starEach xs X.env) : PAd X bs (evA R b (.cons e es)) (x :: xs) := by
  refine PA.by (pa_cons h hr hs) ?_
  intro σ H Q hh
  obtain ⟨m, σd, st, W, r, q⟩ := hh
  have q' : Ok X.K bs (RDL X.K) m st.length H Q ((ev R b e σd st).bind fun d st1 => (evA R b es σd st1).bind fun ds st2 => .ok (d :: ds) st2) := by unfold evA at q; exact q
  refine ⟨m, σd, st, W, r, (q'.bind (rel := RD X.K)).mono ?_⟩
  intro v H1 h1
  obtain ⟨m1, st1, d, s1, W1, r1, q1⟩ := h1
  refine ⟨m1, σd, st1, W1, r.step s1, (q1.bind (rel := RDL X.K)).mono ?_⟩
  intro vs H2 h2
  obtain ⟨m2, st2, ds, s2, W2, r2, q2⟩ := h2
  exact q2.at W2 (RDL.cons (r1.step s2 _ _) r2)
/-! ### tests -/
theorem IfExp_test {c x y : Expr} {pos : Pos} {env : Env} {whole : Sem Value} {M : Model} {A : Around} {Q : Bool → Shared → Prop} {E : Value → Shared → Prop} {s : Shared}
    (h : wpAny M A (isTrue c env (eval c env)) (fun k s1 => if k = true then wpAny M A (isTrue x env (eval x env)) Q E s1 else wpAny M A (isTrue y env (eval y env)) Q E s1) E s) : wpAny M A (isTrue (.IfExp c x y pos) env whole) Q E s := by
  rw [arm_isTrue_IfExp]
  refine wpAny_bind (thn h fun k s1 h1 => ?_)
  cases k with
  | true => exact h1
  | false => exact h1
theorem ed_val {e : E} {x : Expr} (h : PEd X bs (ev R b e) x) : PEd X bs (ev R b (.val e)) x := by
  refine PE.by h ?_
  intro σ H Q hh
  obtain ⟨m, σd, st, W, r, q⟩ := hh
  exact ⟨m, σd, st, W, r, by unfold ev at q; exact q⟩
theorem et_val {e : E} {x : Expr} (h : PEd X bs (ev R b e) x) (he : ∀ whole, isTrue x X.env whole = (do let v ← whole; standAt x.pos; holding [v] (truthy v))) : PTd X bs (evT R b (.val e)) x := by
  refine PT.by (pt_truth h he) ?_
  intro σ H Q hh
  obtain ⟨m, σd, st, W, r, q⟩ := hh
  have q' : Ok X.K bs rB m st.length H Q ((ev R b e σd st).bind fun d st1 => some_ (truD (der st1 d)) st1) := by unfold evT at q; exact q
  refine ⟨m, σd, st, W, r, (q'.bind (rel := RD X.K)).mono ?_⟩
  intro v H1 h1
  obtain ⟨m1, st1, d, s1, W1, r1, q1⟩ := h1
  obtain ⟨c, e1, q2⟩ := q1.some_
  exact ⟨c, (r1.now W1).tru e1, q2.at W1 rfl⟩
theorem et_cmp {N : List Str} {sc os : Scope} {k : Nat} (F : XF X N sc os k) {op : CmpOp} {x y : E} {ex ey : Expr} {pos : Pos} (hx : PEd X bs (ev R b x) ex) (hy : PEd X bs (ev R b y) ey) (hm : behindInMarks op ey = false) : PTd X bs (evT R b (.cmp op x y)) (.Compare ex [op] [ey] pos) := by
  refine PT.by (pt_cmpR (r := fun x y H Q => ∃ m n d1 d2 c, Rn X.K m n H d1 x ∧ Rn X.K m n H d2 y ∧ cmpD op d1 d2 = some c ∧ Q (.bl c) H) ?_ hx hy hm) ?_
  · intro pins s σ H x y v u Q I rx ry h
    obtain ⟨m, n, d1, d2, c, h1, h2, e, q⟩ := h
    exact or_cmp F.un I rx ry h1 h2 e q
  · intro σ H Q hh
    obtain ⟨m, σd, st, W, r, q⟩ := hh
    have q' : Ok X.K bs rB m st.length H Q ((ev R b x σd st).bind fun d1 st1 => (ev R b y σd st1).bind fun d2 st2 => some_ (cmpS op st2 d1 d2) st2) := by unfold evT at q; exact q
    refine tX.mono (ok_two (rel := rB) (g := fun d1 d2 st2 => some_ (cmpS op st2 d1 d2) st2) W r q') ?_
    intro v1 H1 h1
    refine tX.mono h1 ?_
    intro v2 H2 h2
    obtain ⟨m2, st2, d1, d2, _, W2, _, r1, r2, q2⟩ := h2
    obtain ⟨c, e, q3⟩ := q2.some_
    obtain ⟨n', a, b', g1, g2, g3⟩ := cmpS_rn W2 r1 r2 e
    exact ⟨m2, n', a, b', c, g1, g2, g3, c, rfl, q3.at W2 rfl⟩
theorem et_cmp2 {N : List Str} {sc os : Scope} {k : Nat} (F : XF X N sc os k) {op op' : CmpOp} {x y z : E} {ex ey ez : Expr} {pos : Pos} (hx : PEd X bs (ev R b x) ex) (hy : PEd X bs (ev R b y) ey) (hz : PEd X bs (ev R b z) ez) (hm : lastMarks [op, op'] [ey, ez] = false) :
    PTd X bs (evT R b (.cmp2 op op' x y z)) (.Compare ex [op, op'] [ey, ez] pos) := by
  have rule : ∀ o : CmpOp, OpR X (compareOp o) (fun x y H Q => ∃ m n d1 d2 c, Rn X.K m n H d1 x ∧ Rn X.K m n H d2 y ∧ cmpD o d1 d2 = some c ∧ Q (.bl c) H) := by
    intro o pins s σ H x y v u Q I rx ry h
    obtain ⟨m, n, d1, d2, c, h1, h2, e, q⟩ := h
    exact or_cmp F.un I rx ry h1 h2 e q
  refine PT.by (pt_chain (rule op) (rule op') hx hy hz hm) ?_
  intro σ H Q hh
  obtain ⟨m, σd, st, W, r, q⟩ := hh
  have q' : Ok X.K bs rB m st.length H Q ((ev R b x σd st).bind fun d1 st1 => (ev R b y σd st1).bind fun d2 st2 => (some_ (cmpS op st2 d1 d2) st2).bind fun c st3 =>
      match c with
      | false => .ok false st3
      | true => (ev R b z σd st3).bind fun d3 st4 => some_ (cmpS op' st4 d2 d3) st4) := by unfold evT at q; exact q
  refine tX.mono (ok_two (rel := rB) (g := fun d1 d2 st2 => (some_ (cmpS op st2 d1 d2) st2).bind fun c st3 =>
      match c with
      | false => .ok false st3
      | true => (ev R b z σd st3).bind fun d3 st4 => some_ (cmpS op' st4 d2 d3) st4) W r q') ?_
  intro v1 H1 h1
  refine tX.mono h1 ?_
  intro v2 H2 h2
  obtain ⟨m2, st2, d1, d2, _, W2, rs2, r1, r2, q2⟩ := h2
  obtain ⟨c, e, q3⟩ := q2.bindS
  obtain ⟨n', a, b', g1, g2, g3⟩ := cmpS_rn W2 r1 r2 e
  refine ⟨m2, n', a, b', c, g1, g2, g3, c, rfl, ?_⟩
  cases c with
  | false =>
    rw [if_neg Bool.false_ne_true]
    exact ⟨false, rfl, q3.at W2 rfl⟩
  | true =>
    rw [if_pos rfl]
    have q4 : Ok X.K bs rB m2 st2.length H2 Q ((ev R b z σd st2).bind fun d3 st4 => some_ (cmpS op' st4 d2 d3) st4) := q3
    refine ⟨m2, σd, st2, W2, rs2, (q4.bind (rel := RD X.K)).mono ?_⟩
    intro v3 H3 h3
    obtain ⟨m3, st3, d3, s3, W3, r3, q5⟩ := h3
    obtain ⟨c', e', q6⟩ := q5.some_
    obtain ⟨n', a, b', g1, g2, g3⟩ := cmpS_rn W3 (r2.step s3 _ _) r3 e'
    exact ⟨m3, n', a, b', c', g1, g2, g3, c', rfl, q6.at W3 rfl⟩
abbrev PWd (X : Cx) (bs : Bs) (f : Sg → Store → Res Bool) (e : Expr) : Prop := PW X e (tT X.K bs f)
theorem PW.by {X : Cx} {e : Expr} {t t' : TT} (h : PW X e t) (hi : ∀ σ H Q, t' σ H Q → t σ H Q) : PW X e t' := ⟨fun wh pins s σ H Q I hw => h.run wh pins s σ H Q I (hi σ H Q hw)⟩
theorem ew_one {op : BoolOp} {x : E} {ex : Expr} {pos : Pos} (hx : PTd X bs (evT R b x) ex) : PWd X bs (evT R b (.one x)) (.BoolOp op [ex] pos) := by
  cases op with
  | And =>
    refine PW.by (pw_and1 hx) ?_
    intro σ H Q hh
    obtain ⟨m, σd, st, W, r, q⟩ := hh
    exact ⟨m, σd, st, W, r, by unfold evT at q; exact q⟩
  | Or =>
    refine PW.by (pw_or1 hx) ?_
    intro σ H Q hh
    obtain ⟨m, σd, st, W, r, q⟩ := hh
    exact ⟨m, σd, st, W, r, by unfold evT at q; exact q⟩
theorem ew_and {x y : E} {ex ey : Expr} {es : List Expr} {pos : Pos} (hx : PTd X bs (evT R b x) ex) (hy : PWd X bs (evT R b y) (.BoolOp .And (ey :: es) pos)) : PWd X bs (evT R b (.and x y)) (.BoolOp .And (ex :: ey :: es) pos) := by
  refine PW.by (pw_and hx hy) ?_
  intro σ H Q hh
  obtain ⟨m, σd, st, W, r, q⟩ := hh
  have q' : Ok X.K bs rB m st.length H Q ((evT R b x σd st).bind fun c st1 =>
      match c with
      | true => evT R b y σd st1
      | false => .ok false st1) := by unfold evT at q; exact q
  refine ⟨m, σd, st, W, r, (q'.bind (rel := rB)).mono ?_⟩
  intro v H1 h1
  obtain ⟨m1, st1, d, s1, W1, r1, q1⟩ := h1
  have r1' : v = d := r1
  subst r1'
  cases v with
  | true =>
    rw [if_pos rfl]
    exact ⟨m1, σd, st1, W1, r.step s1, q1⟩
  | false =>
    rw [if_neg Bool.false_ne_true]
    exact q1.at W1 rfl
theorem ew_or {x y : E} {ex ey : Expr} {es : List Expr} {pos : Pos} (hx : PTd X bs (evT R b x) ex) (hy : PWd X bs (evT R b y) (.BoolOp .Or (ey :: es) pos)) : PWd X bs (evT R b (.or x y)) (.BoolOp .Or (ex :: ey :: es) pos) := by
  refine PW.by (pw_or hx hy) ?_
  intro σ H Q hh
  obtain ⟨m, σd, st, W, r, q⟩ := hh
  have q' : Ok X.K bs rB m st.length H Q ((evT R b x σd st).bind fun c st1 =>
      match c with
      | true => .ok true st1
      | false => evT R b y σd st1) := by unfold evT at q; exact q
  refine ⟨m, σd, st, W, r, (q'.bind (rel := rB)).mono ?_⟩
  intro v H1 h1
  obtain ⟨m1, st1, d, s1, W1, r1, q1⟩ := h1
  have r1' : v = d := r1
  subst r1'
  cases v with
  | true =>
    rw [if_pos rfl]
    exact q1.at W1 rfl
  | false =>
    rw [if_neg Bool.false_ne_true]
    exact ⟨m1, σd, st1, W1, r.step s1, q1⟩
theorem et_not {x : E} {ex : Expr} {pos : Pos} (hx : PTd X bs (evT R b x) ex) : PTd X bs (evT R b (.not x)) (.UnaryOp .Not ex pos) := by
  refine PT.by (pt_not hx) ?_
  intro σ H Q hh
  obtain ⟨m, σd, st, W, r, q⟩ := hh
  have q' : Ok X.K bs rB m st.length H Q ((evT R b x σd st).bind fun c st1 => .ok (!c) st1) := by unfold evT at q; exact q
  refine ⟨m, σd, st, W, r, (q'.bind (rel := rB)).mono ?_⟩
  intro v H1 h1
  obtain ⟨m1, st1, d, s1, W1, r1, q1⟩ := h1
  have r1' : v = d := r1
  subst r1'
  exact q1.at W1 rfl
theorem et_ite {c x y : E} {ec ex ey : Expr} {pos : Pos} (hc : PTd X bs (evT R b c) ec) (hx : PTd X bs (evT R b x) ex) (hy : PTd X bs (evT R b y) ey) : PTd X bs (evT R b (.ite c x y)) (.IfExp ec ex ey pos) := by
  refine ⟨fun pins s σ H Q I hh => ?_⟩
  obtain ⟨m, σd, st, W, r, q⟩ := hh
  have q' : Ok X.K bs rB m st.length H Q ((evT R b c σd st).bind fun c st1 =>
      match c with
      | true => evT R b x σd st1
      | false => evT R b y σd st1) := by unfold evT at q; exact q
  refine IfExp_test (thn (hc.run pins s σ H _ I ⟨m, σd, st, W, r, q'.bind (rel := rB)⟩) fun k s1 h1 => ?_)
  obtain ⟨H1, I1, m1, st1, d, s1', W1, r1, q1⟩ := h1
  have r1' : k = d := r1
  subst r1'
  cases k with
  | true => exact hx.run pins s1 σ H1 Q I1 ⟨m1, σd, st1, W1, r.step s1', q1⟩
  | false => exact hy.run pins s1 σ H1 Q I1 ⟨m1, σd, st1, W1, r.step s1', q1⟩
/-! ### slices -/
theorem PO.by {X : Cx} {e : Option Expr} {t t' : TO} (h : PO X e t) (hi : ∀ σ H Q, t' σ H Q → t σ H Q) : PO X e t' := ⟨fun pins s σ H Q I hw => h.run pins s σ H Q I (hi σ H Q hw)⟩
abbrev tO (K : PySem.W.Frag) (bs : Bs) (f : Sg → Store → Res (Option Int)) : TO := tX K bs rP f
theorem ep_none : PO X none (tO X.K bs (evP R b .nil)) := by
  refine PO.by po_none ?_
  intro σ H Q hh
  obtain ⟨m, σd, st, W, r, q⟩ := hh
  have q' : Ok X.K bs rP m st.length H Q (.ok none st) := by unfold evP at q; exact q
  exact q'.at W rfl
theorem ep_some {e : E} {x : Expr} (h : PEd X bs (ev R b e) x) : PO X (some x) (tO X.K bs (evP R b (.val e))) := by
  refine PO.by (po_some h) ?_
  intro σ H Q hh
  obtain ⟨m, σd, st, W, r, q⟩ := hh
  have q' : Ok X.K bs rP m st.length H Q ((ev R b e σd st).bind fun d st1 => (asI d st1).bind fun i st2 => .ok (some i) st2) := by unfold evP at q; exact q
  refine ⟨m, σd, st, W, r, (q'.bind (rel := RD X.K)).mono ?_⟩
  intro v H1 h1
  obtain ⟨m1, st1, d, s1, W1, r1, q1⟩ := h1
  unfold asI at q1
  split at q1
  · exact ⟨_, r1.intV, q1.at W1 rfl⟩
  · exact q1.elim
theorem ed_sl {own : Bool} {x lo hi : E} {ex : Expr} {elo ehi : Option Expr} {p2 pos : Pos} (hx : PEd X bs (ev R b x) ex) (hl : PO X elo (tO X.K bs (evP R b lo))) (hh : PO X ehi (tO X.K bs (evP R b hi))) :
    PEd X bs (ev R b (.sl own x lo hi)) (.Subscript ex (.Slice elo ehi none p2) pos) := by
  refine PE.by (pe_slice sr_sl hx hl hh) ?_
  intro σ H Q hh
  obtain ⟨m, σd, st, W, r, q⟩ := hh
  have q' : Ok X.K bs (RD X.K) m st.length H Q ((ev R b x σd st).bind fun d st1 => (evP R b lo σd st1).bind fun l st2 => (evP R b hi σd st2).bind fun h st3 => (slD (der st3 d) l h).fin own st3) := by unfold ev at q; exact q
  refine ⟨m, σd, st, W, r, (q'.bind (rel := RD X.K)).mono ?_⟩
  intro v H1 h1
  obtain ⟨m1, st1, d, s1, W1, r1, q1⟩ := h1
  refine ⟨m1, σd, st1, W1, r.step s1, (q1.bind (rel := rP)).mono ?_⟩
  intro l H2 h2
  obtain ⟨m2, st2, l', s2, W2, r2, q2⟩ := h2
  have r2' : l = l' := r2
  subst r2'
  refine ⟨m2, σd, st2, W2, (r.step s1).step s2, (q2.bind (rel := rP)).mono ?_⟩
  intro u H3 h3
  obtain ⟨m3, st3, u', s3, W3, r3, q3⟩ := h3
  have r3' : u = u' := r3
  subst r3'
  exact ⟨bs, m3, st3, _, own, W3, ((r1.step s2 _ _).step s3 _ _).now W3, q3⟩
theorem rev_places (n : Nat) : Builtin.Slice.slicePlaces ((n : Int) - 1) (-1) (-1) = n := by
  unfold Builtin.Slice.slicePlaces
  rw [if_neg (by decide)]
  by_cases h : n = 0
  · subst h
    rfl
  · rw [if_pos (by omega)]
    have e : ((n : Int) - 1 - -1 - 1) / (- -1) + 1 = (n : Int) := by
      rw [show (- -1 : Int) = 1 by decide, Int.ediv_one]
      omega
    rw [e]
    exact Int.toNat_natCast n
theorem rev_pick (xs : Array Value) : ((List.range xs.size).filterMap fun (k : Nat) => xs[(((xs.size : Int) - 1) + (k : Int) * (-1)).toNat]?).toArray = xs.toList.reverse.toArray := by
  have e : (fun (k : Nat) => xs[(((xs.size : Int) - 1) + (k : Int) * (-1)).toNat]?) = (fun i => xs[i]?) ∘ fun k => xs.size - 1 - k := by
    funext k
    show xs[(((xs.size : Int) - 1) + (k : Int) * (-1)).toNat]? = xs[xs.size - 1 - k]?
    have : (((xs.size : Int) - 1) + (k : Int) * (-1)).toNat = xs.size - 1 - k := by omega
    rw [this]
  rw [e, ← List.filterMap_map, PySem.W.krv_range, List.filterMap_reverse, PySem.W.krv_all]
section
variable {prog : Program} {w : World} {A : Around} {E : Value → Shared → Prop} {s : Shared}
theorem getItem_tup_rev {t sl : Addr} {items : Array Value} {vl vu vs : Value} {Q : Value → Shared → Prop} (ht : IsTup s.heap t items) (hs : s.heap.IsSliceOf sl vl vu vs) (pl : IsPart vl none) (pu : IsPart vu none) (ps : IsPart vs (some (-1)))
    (h : Q (.ref s.heap.objs.size) { s with heap := s.heap.push { cls := .type "tuple", data := .seq items.toList.reverse.toArray } }) (hsz : items.size ≤ sizeLine) : wpAny (model prog w) A (getItem (.ref t) (.ref sl)) Q E s := by
  have hz : sizeOk (.seq items.toList.reverse.toArray) := by
    show items.toList.reverse.toArray.size ≤ sizeLine
    rw [List.size_toArray, List.length_reverse, Array.length_toList]
    exact hsz
  obtain ⟨os, hos, hcs, hds⟩ := id hs
  have hTs : s.TypeIs (.ref sl) "slice" := ⟨os, hos, hcs⟩
  unfold getItem
  try with_reducible refine wpAny_holding ?_
  first | refine wpAny_bind (wpAny_pure ?_) | skip
  refine wpAny_bind (wpAny_sequenceKey ht.typeIs (by decide) ?_)
  refine wpAny_bind (wpAny_callSpecial?_slot (name := Str.ofString "__getitem__") ht.typeIs PyProof.Rows.slot_tuple_getitem (wpAny_call_entry PyProof.Rows.slot_tuple_getitem ht.typeIs entry_tuple_getitem ?_ (args_tuple_getitem _ _)))
  show wpAny _ _ (Builtin.Tuple.tupleItemsOf (.ref t) >>= _) _ _ s
  refine wpAny_bind (tupleItemsOf_ ht ?_)
  refine wpAny_bind (wpAny_typeOf hTs ?_)
  rw [if_pos (by decide)]
  refine wpAny_bind ?_
  unfold Builtin.Slice.sliceApplied Builtin.Slice.sliceFields
  refine wpAny_bind (wpAny_bind (wpAny_field hos hds (x := vl) rfl (wpAny_bind (wpAny_field hos hds (x := vu) rfl (wpAny_bind (wpAny_field hos hds (x := vs) rfl (wpAny_pure ?_)))))))
  refine wpAny_bind (HT.slicePart_ ps ?_)
  show wpAny _ _ (if ((-1 : Int) == 0) = true then _ else _) _ _ s
  rw [if_neg (by decide)]
  refine wpAny_bind (HT.slicePart_ pl (wpAny_bind (HT.slicePart_ pu (wpAny_bind (wpAny_pure ?_)))))
  show wpAny _ _ (pure (((items.size : Nat) : Int) - 1, (-1 : Int), Builtin.Slice.slicePlaces (((items.size : Nat) : Int) - 1) (-1) (-1))) _ _ s
  rw [rev_places]
  refine wpAny_pure ?_
  have hno : ¬ (((((items.size : Nat) : Int) - 1) == 0 && (-1 : Int) == 1 && items.size == items.size) = true) := by
    intro q
    rw [Bool.and_eq_true, Bool.and_eq_true] at q
    exact absurd q.1.2 (by decide)
  show wpAny _ _ (if ((((items.size : Nat) : Int) - 1) == 0 && (-1 : Int) == 1 && items.size == items.size) = true then _ else _) _ _ s
  rw [if_neg hno, rev_pick]
  first
    | exact wpAny_bind (m := Builtin.Tuple.tupleExact _) (wpAny_newObj_type (wpAny_pure ⟨_, rfl, wpAny_pure h⟩) hz)
    | exact wpAny_bind (m := Builtin.Tuple.tupleExact _) (wpAny_newObj_type (wpAny_bind (wpAny_pure (wpAny_pure ⟨_, rfl, wpAny_pure h⟩))) hz)
    | exact wpAny_bind (wpAny_bind (m := Builtin.Tuple.tupleExact _) (wpAny_newObj_type (wpAny_pure (wpAny_pure ⟨_, rfl, wpAny_pure h⟩)) hz))
    | exact wpAny_bind (wpAny_bind (m := Builtin.Tuple.tupleExact _) (wpAny_newObj_type (wpAny_pure ⟨_, rfl, wpAny_pure h⟩) hz))
end
def tRev2 (K : PySem.W.Frag) (te : TE) : TE := fun σ H Q => te σ H fun x H1 => ∃ a xs, x = .ref a ∧ ((SqL K H1 a xs ∧ ∀ p, H1 p = none → Q (.ref p) (upd H1 p (.lst xs.reverse))) ∨ (SqT K H1 a xs ∧ ∀ p its, H1 p = none → Q (.ref p) (upd H1 p (nT its xs.reverse))))
theorem pe_rev2 {e : Expr} {te : TE} {k : Nat} {p1 p2 p3 pos : Pos} (he : PE X e te) : PE X (.Subscript e (.Slice none none (some (.UnaryOp .USub (.Constant (.int 1) k p1) p2)) p3) pos) (tRev2 X.K te) := by
  refine ⟨fun pins s σ H Q I h => ?_⟩
  refine Subscript_ (thn (he.run pins s σ H _ I h) fun v s1 hv => ?_)
  obtain ⟨x, H1, I1, r1, a, xs, ex, q⟩ := hv
  subst ex
  cases r1
  have hst : PO X (some (.UnaryOp .USub (.Constant (.int 1) k p1) p2)) (tPart (tUn (rU fun i => .int (-i)) (tC (.int 1)))) := po_some (pe_un un_neg pe_int)
  refine wpAny_Slice (thn (po_none.run pins s1 σ H1 (fun o H2 => o = none ∧ H2 = H1) I1 ⟨rfl, rfl⟩) fun vl s2 h2 => ?_)
  obtain ⟨l, H2, I2, pl, el, e2⟩ := h2
  subst el e2
  refine thn (po_none.run pins s2 σ H2 (fun o H3 => o = none ∧ H3 = H2) I2 ⟨rfl, rfl⟩) fun vu s3 h3 => ?_
  obtain ⟨u, H3, I3, pu, eu, e3⟩ := h3
  subst eu e3
  refine thn (hst.run pins s3 σ H3 (fun o H4 => o = some (-1) ∧ H4 = H3) I3 ⟨1, rfl, -1, rfl, rfl, rfl⟩) fun vs s4 h4 => ?_
  obtain ⟨o, H4, I4, ps, eo, e4⟩ := h4
  subst eo e4
  have I5 : Inv X pins σ H4 { s4 with heap := s4.heap.push { cls := .type "slice", data := .fields #[vl, vu, vs] } } := I4.kept (t' := s4.toks) fun b ob q => Heap.get?_push_of_some _ q
  show wpAny (model X.prog X.w) X.A (subscriptTail e (.Slice none none (some (.UnaryOp .USub (.Constant (.int 1) k p1) p2)) p3) (.ref a) (.ref s4.heap.objs.size)) (EP X pins σ Q) X.xe { s4 with heap := s4.heap.push { cls := .type "slice", data := .fields #[vl, vu, vs] } }
  rcases q with ⟨hx, q⟩ | ⟨hx, q⟩
  · obtain ⟨its, r, ht, hz⟩ := I5.list hx
    have hlen := r.length
    refine tail_any (ops := [.ref a, .ref s4.heap.objs.size]) ht.isList.typeIs (PySem.slot_list_getitem.lookup) ?_ (by with_unfolding_all rfl)
    refine wpAny_getItem_list_slice ht.isList (Heap.IsSliceOf.new _ vl vu vs) pl pu ps (by decide) ?_ (by rw [List.size_toArray]; omega)
    rw [PySem.W.krv_pick]
    exact ⟨.ref _, _, I5.laid (t' := s4.toks) (o := .lst xs.reverse) (fun b ob q => Heap.get?_push_of_some _ q) (Nat.le_refl _) ⟨by rw [List.length_reverse]; exact hz, _, 0, r.reverse, Heap.get?_push_size _ rfl⟩, rfl, q _ (I5.hok.fresh (Nat.le_refl _))⟩
  · obtain ⟨its, r, ht, hz⟩ := I5.tuple hx
    have hlen := r.length
    refine tail_any (ops := [.ref a, .ref s4.heap.objs.size]) ht.typeIs PyProof.Rows.slot_tuple_getitem.lookup ?_ (by with_unfolding_all rfl)
    refine getItem_tup_rev ht (Heap.IsSliceOf.new _ vl vu vs) pl pu ps ?_ (by rw [List.size_toArray]; omega)
    exact ⟨.ref _, _, inv_tup I5 r.reverse (by rw [List.length_reverse]; exact hz), rfl, q _ _ (I5.hok.fresh (Nat.le_refl _))⟩
theorem ed_rev {own : Bool} {x : E} {ex : Expr} {k : Nat} {p1 p2 p3 pos : Pos} (hx : PEd X bs (ev R b x) ex) : PEd X bs (ev R b (.rev own x)) (.Subscript ex (.Slice none none (some (.UnaryOp .USub (.Constant (.int 1) k p1) p2)) p3) pos) := by
  refine PE.by (pe_rev2 hx) ?_
  intro σ H Q hh
  obtain ⟨m, σd, st, W, r, q⟩ := hh
  have q' : Ok X.K bs (RD X.K) m st.length H Q ((ev R b x σd st).bind fun d st1 => (revD (der st1 d)).fin own st1) := by unfold ev at q; exact q
  refine ⟨m, σd, st, W, r, (q'.bind (rel := RD X.K)).mono ?_⟩
  intro v H1 h1
  obtain ⟨m1, st1, d, s1, W1, r1, q1⟩ := h1
  have r2 := r1.now W1
  unfold revD at q1
  split at q1
  · rename_i xs hd
    rw [hd] at r2
    obtain ⟨p, vs, rfl, e1, e2⟩ := r2
    exact ⟨p, vs, rfl, .inl ⟨SqL.of e1, (Ok.fin_new W1 e2.rev q1).2⟩⟩
  · rename_i xs hd
    rw [hd] at r2
    obtain ⟨p, vs, rfl, e1, e2⟩ := RD.tupT r2
    exact ⟨p, vs, rfl, .inr ⟨e1, Ok.new_tup W1 e2.rev q1⟩⟩
  · exact q1.elim
end
end Mi
end
section
/-! Mi, part 11: calls of defs, of built-ins, of methods. -/
namespace Mi
open PySem PySem.Spec PyProof.Rows L2

theorem vals_pick {vs : List V} {us : List Value} (h : Vals vs us) : ∀ {perm : List Nat} {ys : List V}, pick vs perm = some ys → ∃ zs, pick us perm = some zs ∧ Vals ys zs
  | [], ys, e => by
    unfold pick at e
    cases e
    exact ⟨[], rfl, .nil⟩
  | i :: r, ys, e => by
    unfold pick at e
    split at e
    · rename_i x l h1 h2
      cases e
      obtain ⟨u, hu, ru⟩ := h.get h1
      obtain ⟨zs, hz, rz⟩ := vals_pick h h2
      exact ⟨u :: zs, by unfold pick; rw [hu, hz], .cons ru rz⟩
    · cases e
theorem RDL.pick {K : PySem.W.Frag} {m : Nat → Addr} {n : Nat} {H : Hp} {ds : List D} {vs : List V} (h : RDL K m n H ds vs) : ∀ {perm : List Nat} {ys : List D}, Mi.pick ds perm = some ys → ∃ zs, Mi.pick vs perm = some zs ∧ RDL K m n H ys zs
  | [], ys, e => by
    unfold Mi.pick at e
    cases e
    exact ⟨[], rfl, RDL.nil⟩
  | i :: r, ys, e => by
    unfold Mi.pick at e
    split at e
    · rename_i x l h1 h2
      cases e
      obtain ⟨u, hu, ru⟩ := h.getD h1
      obtain ⟨zs, hz, rz⟩ := RDL.pick h h2
      exact ⟨u :: zs, by unfold Mi.pick; rw [hu, hz], RDL.cons ru rz⟩
    · cases e
section
variable {X : Cx} {bs : Bs} {R : Rt} {b : Nat}
theorem ed_call {Γ : Gam} {k : Nat} (G : GF X.prog X.w X.K X.mg X.base Γ R k bs.ts) {N : List Str} {sc os : Scope} (F : XF X N sc os k) (hb : ∀ c ∈ bs, c ≤ b) {x : Str} {f : Nat} {es : E} {e : Expr} {xs : List Expr} {p pos : Pos} (hf : Γ.fns[f]? = some x) (hg : Gl X x)
    (hd : (x == ("__debug__" : Str)) = false) (ha : PAd X bs (evA R b es) (e :: xs)) (he : starEach (e :: xs) X.env = (false, eval e X.env) :: starEach xs X.env) (hpl : (backTo pos (starEach xs X.env)).any (·.1) = false) :
    PEd X bs (ev R b (.call x f es)) (.Call (.Name x p) (e :: xs) [] pos) := by
  obtain ⟨a, fd, ps, _, hm, hk, hbn, Fn, _⟩ := G.fn f x hf
  refine PE.by (pe_gcall Fn F.room F.gd hg hm hk hbn ha hd he hpl) ?_
  intro σ H Q hh
  obtain ⟨m, σd, st, W, r, q⟩ := hh
  have q' : Ok X.K bs (RD X.K) m st.length H Q ((evA R b es σd st).bind fun ds st1 => R.call f ds b st1) := by unfold ev at q; exact q
  refine ⟨m, σd, st, W, r, (q'.bind (rel := RDL X.K)).mono ?_⟩
  intro vs H1 h1
  obtain ⟨m1, st1, ds, s1, W1, r1, q1⟩ := h1
  exact ⟨bs, b, m1, ds, st1, rfl, W1, hb, r1, q1⟩
theorem ed_call0 {Γ : Gam} {k : Nat} (G : GF X.prog X.w X.K X.mg X.base Γ R k bs.ts) {N : List Str} {sc os : Scope} (F : XF X N sc os k) (hb : ∀ c ∈ bs, c ≤ b) {x : Str} {f : Nat} {p pos : Pos} (hf : Γ.fns[f]? = some x) (hg : Gl X x)
    (hd : (x == ("__debug__" : Str)) = false) : PEd X bs (ev R b (.call x f .nil)) (.Call (.Name x p) [] [] pos) := by
  obtain ⟨a, fd, ps, _, hm, hk, hbn, Fn, _⟩ := G.fn f x hf
  refine PE.by (pe_gcall0 Fn F.room F.gd hg hm hk hbn hd) ?_
  intro σ H Q hh
  obtain ⟨m, σd, st, W, r, q⟩ := hh
  have q' : Ok X.K bs (RD X.K) m st.length H Q (R.call f [] b st) := by unfold ev evA at q; exact q
  exact ⟨bs, b, m, [], st, rfl, W, hb, RDL.nil, q'⟩
/-- the values of the keywords -/
abbrev PKd (X : Cx) (bs : Bs) (f : Sg → Store → Res (List D)) (es : List Keyword) : Prop := PK X es (tA X.K bs f)
theorem PK.by {X : Cx} {e : List Keyword} {t t' : TA} (h : PK X e t) (hi : ∀ σ H Q, t' σ H Q → t σ H Q) : PK X e t' := ⟨fun pos pins s σ H Q I hw => h.run pos pins s σ H Q I (hi σ H Q hw)⟩
theorem ek_nil : PKd X bs (evA R b .nil) [] := by
  refine PK.by pk_nil ?_
  intro σ H Q h
  obtain ⟨m, σd, st, W, r, q⟩ := h
  have q' : Ok X.K bs (RDL X.K) m st.length H Q (.ok [] st) := by unfold evA at q; exact q
  exact q'.at W RDL.nil
theorem ek_cons {e : E} {es : E} {x : Expr} {xs : List Keyword} {nm : Option Str} {kp : Pos} (h : PEd X bs (ev R b e) x) (hr : PKd X bs (evA R b es) xs) : PKd X bs (evA R b (.cons e es)) (⟨nm, x, kp⟩ :: xs) := by
  refine PK.by (pk_cons h hr) ?_
  intro σ H Q hh
  obtain ⟨m, σd, st, W, r, q⟩ := hh
  have q' : Ok X.K bs (RDL X.K) m st.length H Q ((ev R b e σd st).bind fun d st1 => (evA R b es σd st1).bind fun ds st2 => .ok (d :: ds) st2) := by unfold evA at q; exact q
  refine ⟨m, σd, st, W, r, (q'.bind (rel := RD X.K)).mono ?_⟩
  intro v H1 h1
  obtain ⟨m1, st1, d, s1, W1, r1, q1⟩ := h1
  refine ⟨m1, σd, st1, W1, r.step s1, (q1.bind (rel := RDL X.K)).mono ?_⟩
  intro vs H2 h2
  obtain ⟨m2, st2, ds, s2, W2, r2, q2⟩ := h2
  exact q2.at W2 (RDL.cons (r1.step s2 _ _) r2)
theorem pe_gcallKp {k : Nat} {f : Addr} {fd : FuncData} {ps : List Str} {sp : Spq} {x : Str} {p pos : Pos} {es : List Expr} {kws : List Keyword} {ks : List Str} {np : Nat} {perm : List Nat} {t tk : TA} (F : FnG X.prog X.w X.K X.mg X.base k f fd ps sp) (hr : Room k X.A) (hgu : X.A.guards = some [])
    (hg : Gl X x) (hm : X.mg x = some (.ref f)) (hk : PySem.W.keepIn X.K (.ref f) = true)
    (hb : ∀ (s : Shared) (us ws zs : List Value), X.K.In s.heap → us.length = np → ws.length = ks.length → pick (us ++ ws) perm = some zs → BindsTo s fd ⟨us, ks.zip ws⟩ (ps.zip zs))
    (ha : PA X es t) (hkw : PK X kws tk) (hall : (backToKw pos (keywordEach kws X.env)).all (·.1.isSome) = true) (hks : (backToKw pos (keywordEach kws X.env)).filterMap (·.1) = ks)
    (hdb : (x == ("__debug__" : Str)) = false) (he : ∀ e r, es = e :: r → starEach (e :: r) X.env = (false, eval e X.env) :: starEach r X.env) (hz : es = [] → ∀ (σ : L2.St) (H : Hp) (Q : List V → Hp → Prop), t σ H Q → Q [] H) (hpl : ((backTo pos (starEach es X.env)).any (·.1) || (backToKw pos (keywordEach kws X.env)).any (·.1.isNone)) = false) :
    PE X (.Call (.Name x p) es kws pos) (fun σ H Q => t σ H fun vs H1 => tk σ H1 fun zs H2 => vs.length = np ∧ zs.length = ks.length ∧ ∃ ys, pick (vs ++ zs) perm = some ys ∧ sp ys H2 Q) := by
  refine ⟨fun pins s σ H Q I h => wpAny_Call_Name_kw (ld_glob I hg hm ?_ hdb)⟩
  have fin : ∀ (s2 : Shared) (vs zs : List V) (us ws : List Value) (H2 : Hp), Inv X pins σ H2 s2 → Vals vs us → Vals zs ws → (vs.length = np ∧ zs.length = ks.length ∧ ∃ ys, pick (vs ++ zs) perm = some ys ∧ sp ys H2 Q) → wpAny (model X.prog X.w) X.A (call (.ref f) us (ks.zip ws)) (EP X pins σ Q) X.xe s2 := by
    intro s2 vs zs us ws H2 I2 rv rz q
    obtain ⟨h1, h2, ys, hy, q⟩ := q
    obtain ⟨qs, hq, rq⟩ := vals_pick (rv.append rz) hy
    exact F.called (args := ⟨us, ks.zip ws⟩) hr hgu (hb s2 us ws qs I2.kIn (by rw [← rv.length]; exact h1) (by rw [← rz.length]; exact h2) hq) I2 rq q
  cases es with
  | nil =>
    refine PySem.W.callWith_KW0 (h₀ := X.base) I.ok.mod.kin hk hall ?_ hpl
    have q1 := hz rfl _ _ _ h
    refine thn (hkw.run pos pins s σ H _ I q1) ?_
    intro ws s2 hs2
    obtain ⟨zs, H2, I2, rz, q2⟩ := hs2
    refine ⟨I2.kIn, ?_⟩
    rw [hks]
    exact fin s2 [] zs [] ws H2 I2 .nil rz q2
  | cons e r =>
    refine PySem.W.callWith_KW (h₀ := X.base) I.ok.mod.kin hk hall (thn (ha.run pos pins s σ H _ I h) ?_) hpl (he e r rfl)
    intro us s1 hs
    obtain ⟨vs, H1, I1, r1, q⟩ := hs
    refine thn (hkw.run pos pins s1 σ H1 _ I1 q) ?_
    intro ws s2 hs2
    obtain ⟨zs, H2, I2, rz, q2⟩ := hs2
    refine ⟨I2.kIn, ?_⟩
    rw [hks]
    exact fin s2 vs zs us ws H2 I2 r1 rz q2
theorem evA_nilQ {σ : L2.St} {H : Hp} {Q : List V → Hp → Prop} (h : tA X.K bs (evA R b .nil) σ H Q) : Q [] H := by
  obtain ⟨m, σd, st, W, r, q⟩ := h
  have q' : Ok X.K bs (RDL X.K) m st.length H Q (.ok [] st) := by unfold evA at q; exact q
  exact q'.at W RDL.nil
theorem ed_callk {Γ : Gam} {k : Nat} (G : GF X.prog X.w X.K X.mg X.base Γ R k bs.ts) {N : List Str} {sc os : Scope} (F : XF X N sc os k) (hb : ∀ c ∈ bs, c ≤ b) {x : Str} {f np : Nat} {ks : List Str} {perm : List Nat} {es ws : E} {xs : List Expr} {kws : List Keyword} {p pos : Pos} (hf : Γ.fns[f]? = some x) (hg : Gl X x)
    (hkw : (f, np, ks, perm) ∈ Γ.kws) (hd : (x == ("__debug__" : Str)) = false) (ha : PAd X bs (evA R b es) xs) (hw : PKd X bs (evA R b ws) kws) (hall : (backToKw pos (keywordEach kws X.env)).all (·.1.isSome) = true) (hks : (backToKw pos (keywordEach kws X.env)).filterMap (·.1) = ks)
    (he : ∀ e r, xs = e :: r → starEach (e :: r) X.env = (false, eval e X.env) :: starEach r X.env) (hz : xs = [] → es = .nil) (hpl : ((backTo pos (starEach xs X.env)).any (·.1) || (backToKw pos (keywordEach kws X.env)).any (·.1.isNone)) = false) :
    PEd X bs (ev R b (.callk x f np ks perm es ws)) (.Call (.Name x p) xs kws pos) := by
  obtain ⟨a, fd, ps, _, hm, hk, hbn, Fn, hbk⟩ := G.fn f x hf
  refine PE.by (pe_gcallKp (np := np) (ks := ks) (perm := perm) Fn F.room F.gd hg hm hk (fun s us ws zs h1 h2 h3 h4 => hbk np ks perm hkw s us ws zs h1 h2 h3 h4) ha hw hall hks hd he (fun e σ H Q h => by have := hz e; subst this; exact evA_nilQ h) hpl) ?_
  intro σ H Q hh
  obtain ⟨m, σd, st, W, r, q⟩ := hh
  have q' : Ok X.K bs (RD X.K) m st.length H Q ((evA R b es σd st).bind fun ds st1 => (evA R b ws σd st1).bind fun zs st2 => if ds.length = np ∧ zs.length = ks.length then (some_ (pick (ds ++ zs) perm) st2).bind fun ys st3 => R.call f ys b st3 else .bad) := by unfold ev at q; exact q
  refine ⟨m, σd, st, W, r, (q'.bind (rel := RDL X.K)).mono ?_⟩
  intro vs H1 h1
  obtain ⟨m1, st1, ds, s1, W1, r1, q1⟩ := h1
  refine ⟨m1, σd, st1, W1, r.step s1, (q1.bind (rel := RDL X.K)).mono ?_⟩
  intro zs H2 h2
  obtain ⟨m2, st2, dz, s2, W2, r2, q2⟩ := h2
  split at q2
  · rename_i hl
    obtain ⟨ys, hy, q3⟩ := q2.bindS
    have rr := RDL.app (RDL.step s2 _ _ r1) r2
    obtain ⟨us, hu, ru⟩ := rr.pick hy
    exact ⟨by rw [← r1.len]; exact hl.1, by rw [← r2.len]; exact hl.2, us, hu, bs, b, m2, ys, st2, rfl, W2, hb, ru, q3⟩
  · exact q2.elim
/-! ### built-ins -/
theorem ed_bi {N : List Str} {sc os : Scope} {k : Nat} (F : XF X N sc os k) {f : BI} {own : Bool} {es : E} {e : Expr} {xs : List Expr} {p pos : Pos} (hm : X.mg (biN f) = none) (hg : Gl X (biN f)) (ha : PAd X bs (evA R b es) (e :: xs))
    (he : starEach (e :: xs) X.env = (false, eval e X.env) :: starEach xs X.env) (hpl : (backTo pos (starEach xs X.env)).any (·.1) = false) : PEd X bs (ev R b (.bi f own es)) (.Call (.Name (biN f) p) (e :: xs) [] pos) := by
  have hn : biN f ≠ "__name__" := by cases f <;> decide +kernel
  have hdb : (biN f == ("__debug__" : Str)) = false := by cases f <;> decide +kernel
  have hv := bi_boot f
  have hr := cr_bi (X := X) (f := f) F.calm F.gd F.un
  have key : PE X (.Call (.Name (biN f) p) (e :: xs) [] pos) (tCB (rBi X.K f) (tA X.K bs (evA R b es))) := by
    unfold biV at hv hr
    split at hv
    · rename_i hb
      rw [if_pos hb] at hr
      exact pe_callTy hr hg hm hv ha hn hdb he hpl
    · rename_i hb
      rw [if_neg hb] at hr
      exact pe_callB hr hg hm hv ha hn hdb he hpl
  refine PE.by key ?_
  intro σ H Q hh
  obtain ⟨m, σd, st, W, r, q⟩ := hh
  have q' : Ok X.K bs (RD X.K) m st.length H Q ((evA R b es σd st).bind fun ds st1 => (biD f (ds.map (der st1))).fin own st1) := by unfold ev at q; exact q
  refine ⟨m, σd, st, W, r, (q'.bind (rel := RDL X.K)).mono ?_⟩
  intro vs H1 h1
  obtain ⟨m1, st1, ds, s1, W1, r1, q1⟩ := h1
  exact ⟨bs, m1, st1, _, own, W1, r1.now W1, q1⟩
/-! ### methods -/
def meI : ME → String
  | .append => "list.append"
  | .extend => "list.extend"
  | .pop => "list.pop"
  | .popi => "list.pop"
  | .split => "str.split"
  | .find => "str.find"
  | .upper => "str.upper"
  | .lower => "str.lower"
  | .startswith => "str.startswith"
  | _ => "dict.get"
def meN : ME → Str
  | .append => "append"
  | .extend => "extend"
  | .pop => "pop"
  | .popi => "pop"
  | .split => "split"
  | .find => "find"
  | .upper => "upper"
  | .lower => "lower"
  | .startswith => "startswith"
  | _ => "get"
def meTy : ME → String
  | .append => "list"
  | .extend => "list"
  | .pop => "list"
  | .popi => "list"
  | .split => "str"
  | .find => "str"
  | .upper => "str"
  | .lower => "str"
  | .startswith => "str"
  | _ => "dict"
theorem me_plain : ∀ m : ME, PlainAttrs (meTy m)
  | .append => PySem.F.plainAttrs_list
  | .extend => PySem.F.plainAttrs_list
  | .pop => PySem.F.plainAttrs_list
  | .popi => PySem.F.plainAttrs_list
  | .split => PySem.F.plainAttrs_str
  | .find => PySem.F.plainAttrs_str
  | .upper => PySem.F.plainAttrs_str
  | .lower => PySem.F.plainAttrs_str
  | .join => PySem.F.plainAttrs_dict
  | .get1 => PySem.F.plainAttrs_dict
  | .get2 => PySem.F.plainAttrs_dict
  | .items => PySem.F.plainAttrs_dict
  | .keys => PySem.F.plainAttrs_dict
  | .values => PySem.F.plainAttrs_dict
  | .setdef => PySem.F.plainAttrs_dict
  | .insert => PySem.F.plainAttrs_dict
  | .index => PySem.F.plainAttrs_dict
  | .count => PySem.F.plainAttrs_dict
  | .startswith => PySem.F.plainAttrs_str
  | .remove => PySem.F.plainAttrs_dict
theorem me_slot : ∀ m : ME, Slot (meTy m) (meN m) (meI m)
  | .append => PySem.F.slot_list_append
  | .extend => PySem.F.slot_list_extend
  | .pop => PySem.F.slot_list_pop
  | .popi => PySem.F.slot_list_pop
  | .split => PySem.F.slot_str_split
  | .find => PySem.F.slot_str_find
  | .upper => PySem.F.slot_str_upper
  | .lower => PySem.F.slot_str_lower
  | .join => PySem.F.slot_dict_get
  | .get1 => PySem.F.slot_dict_get
  | .get2 => PySem.F.slot_dict_get
  | .items => PySem.F.slot_dict_get
  | .keys => PySem.F.slot_dict_get
  | .values => PySem.F.slot_dict_get
  | .setdef => PySem.F.slot_dict_get
  | .insert => PySem.F.slot_dict_get
  | .index => PySem.F.slot_dict_get
  | .count => PySem.F.slot_dict_get
  | .startswith => PySem.F.slot_str_startswith
  | .remove => PySem.F.slot_dict_get
theorem me_type : ∀ m : ME, typeOf (.builtin (meI m)) = pure (.type "method_descriptor")
  | .append => PySem.F.type_list_append
  | .extend => PySem.F.type_list_extend
  | .pop => PySem.F.type_list_pop
  | .popi => PySem.F.type_list_pop
  | .split => PySem.F.type_str_split
  | .find => PySem.F.type_str_find
  | .upper => PySem.F.type_str_upper
  | .lower => PySem.F.type_str_lower
  | .join => PySem.F.type_dict_get
  | .get1 => PySem.F.type_dict_get
  | .get2 => PySem.F.type_dict_get
  | .items => PySem.F.type_dict_get
  | .keys => PySem.F.type_dict_get
  | .values => PySem.F.type_dict_get
  | .setdef => PySem.F.type_dict_get
  | .insert => PySem.F.type_dict_get
  | .index => PySem.F.type_dict_get
  | .count => PySem.F.type_dict_get
  | .startswith => PySem.F.type_str_startswith
  | .remove => PySem.F.type_dict_get
def rMe (K : PySem.W.Frag) (m : ME) : V → List V → Hp → VK → Prop := fun x vs H Q => ∃ bs b mm st d ds own, Wf K bs mm st H ∧ (∀ c ∈ bs, c ≤ b) ∧ RD K mm st.length H d x ∧ RDL K mm st.length H ds vs ∧ Ok K bs (RD K) mm st.length H Q ((meD b st m d ds).bind fun pr st3 => pr.fin own st3)
theorem Rn.isL {K : PySem.W.Frag} {m : Nat → Addr} {n : Nat} {H : Hp} {xs : List D} {v : V} (h : Rn K m n H (.lst xs) v) : ∃ p vs, v = .ref p ∧ H p = some (.lst vs) ∧ RDL K m n H xs vs := h
/-- the place of a datum whose object is a list -/
theorem RD.place {K : PySem.W.Frag} {m : Nat → Addr} {n : Nat} {H : Hp} {i : Nat} {v : V} (h : RD K m n H (.loc i) v) : i < n ∧ v = .ref (m i) := by
  unfold RD at h
  exact h
theorem wr_ok {K : PySem.W.Frag} {bs : Bs} {b : Nat} {m : Nat → Addr} {st st' : Store} {H : Hp} {i : Nat} {xs : List D} {vs : List V} (W : Wf K bs m st H) (hb : ∀ c ∈ bs, c ≤ b) (hw : wr b st i (.lst xs) = some st')
    (hr : i < st.length → RDL K m st.length H xs vs) : Stp m st.length H m st'.length (upd H (m i) (.lst vs)) ∧ Wf K bs m st' (upd H (m i) (.lst vs)) := by
  have hi : i < st.length := by
    unfold Mi.wr at hw
    split at hw
    · rename_i hc
      rw [Bool.and_eq_true, Bool.and_eq_true] at hc
      exact of_decide_eq_true hc.1.1
    · cases hw
  have s := Stp.wr (u := .lst vs) hi (W.ne hi)
  obtain ⟨hl, _, W'⟩ := W.wr hb hw ⟨vs, upd_same, (hr hi).step s _ _⟩
  rw [hl]
  exact ⟨s, W'⟩
def isLM (m : ME) : Bool := decide (m = .append) || decide (m = .extend) || decide (m = .pop) || decide (m = .popi)
theorem meV_bad {m : ME} (h : isLM m = true) (x : D) (ds : List D) : meV m x ds = .bad := by
  cases m with
  | append => rfl
  | extend => rfl
  | pop => rfl
  | popi => rfl
  | _ => cases h
theorem meD_list {K : PySem.W.Frag} {b : Nat} {m : ME} {mm : Nat → Addr} {n : Nat} {H : Hp} {Q : VK} {st : Store} {d : D} {ds : List D} {own : Bool} (h : isLM m = true) (q : Ok K bs (RD K) mm n H Q ((meD b st m d ds).bind fun pr st3 => pr.fin own st3)) :
    ∃ i xs, d = .loc i ∧ st[i]? = some (.lst xs) ∧ Ok K bs (RD K) mm n H Q ((meL b st i xs m ds).bind fun pr st3 => pr.fin own st3) := by
  unfold meD at q
  split at q
  · rename_i i
    split at q
    · rename_i xs hs
      exact ⟨i, xs, rfl, hs, q⟩
    · rw [meV_bad h] at q
      exact q.elim
    · exact q.elim
  · rw [meV_bad h] at q
    exact q.elim
theorem mr_append : MtR X "list.append" (rMe X.K .append) := by
  intro pins s σ H x vs v us Q I rx rv h
  obtain ⟨bs, b, m, st, d, ds, own, W, hb, r, rs, q⟩ := h
  obtain ⟨i, xs, rfl, hs, q⟩ := meD_list rfl q
  obtain ⟨hi, rfl⟩ := r.place
  rcases ds with _ | ⟨y, _ | ⟨z, ds⟩⟩
  · exact q.elim
  · unfold meL at q
    simp only at q
    split at q
    · rename_i hz
      split at q
      · rename_i st' hw
        obtain ⟨ws, e1, e2⟩ := W.ob i _ hs
        have l1 := rs.len
        rcases vs with _ | ⟨w, _ | ⟨w', vs⟩⟩
        · cases l1
        · obtain ⟨w0, h1, rw1⟩ := rs.getD (i := 0) rfl
          cases h1
          obtain ⟨S, W'⟩ := wr_ok (vs := ws ++ [w]) W hb hw fun _ => RDL.app e2 (RDL.one rw1)
          refine mt_append pins s σ H _ _ v us Q I rx rv ⟨m i, ws, w, rfl, rfl, e1, ?_, q m _ _ S W' (by unfold RD; rfl)⟩
          rw [← e2.len]
          exact lt_line hz rfl
        · cases l1
      · exact q.elim
    · exact q.elim
  · exact q.elim
theorem mr_extend : MtR X "list.extend" (rMe X.K .extend) := by
  intro pins s σ H x vs v us Q I rx rv h
  obtain ⟨bs, b, m, st, d, ds, own, W, hb, r, rs, q⟩ := h
  obtain ⟨i, xs, rfl, hs, q⟩ := meD_list rfl q
  obtain ⟨hi, rfl⟩ := r.place
  rcases ds with _ | ⟨y, _ | ⟨z, ds⟩⟩
  · exact q.elim
  · unfold meL at q
    simp only at q
    split at q
    · rename_i ys hy
      split at q
      · rename_i hz
        split at q
        · rename_i st' hw
          obtain ⟨ws, e1, e2⟩ := W.ob i _ hs
          have l1 := rs.len
          rcases vs with _ | ⟨w, _ | ⟨w', vs⟩⟩
          · cases l1
          · obtain ⟨w0, h1, rw1⟩ := rs.getD (i := 0) rfl
            cases h1
            have rn := rw1.now W
            rw [hy] at rn
            obtain ⟨p, zs, rfl, e3, e4⟩ := rn
            obtain ⟨S, W'⟩ := wr_ok (vs := ws ++ zs) W hb hw fun _ => RDL.app e2 e4
            refine mt_extend pins s σ H _ _ v us Q I rx rv ⟨m i, p, ws, zs, rfl, rfl, e1, e3, ?_, q m _ _ S W' (by unfold RD; rfl)⟩
            rw [← e2.len, ← e4.len]
            exact le_line hz rfl
          · cases l1
        · exact q.elim
      · exact q.elim
    · exact q.elim
  · exact q.elim
theorem RDL.dl {K : PySem.W.Frag} {m : Nat → Addr} {n : Nat} {H : Hp} {ds : List D} {vs : List V} (h : RDL K m n H ds vs) : RDL K m n H ds.dropLast vs.dropLast := by
  rw [List.dropLast_eq_take, List.dropLast_eq_take, h.len]
  exact RDL.tk _ h
theorem mr_pop : MtR X "list.pop" (rMe X.K .pop) := by
  intro pins s σ H x vs v us Q I rx rv h
  obtain ⟨bs, b, m, st, d, ds, own, W, hb, r, rs, q⟩ := h
  obtain ⟨i, xs, rfl, hs, q⟩ := meD_list rfl q
  obtain ⟨hi, rfl⟩ := r.place
  rcases ds with _ | ⟨y, ds⟩
  · unfold meL at q
    simp only at q
    split at q
    · rename_i y hy
      split at q
      · rename_i st' hw
        obtain ⟨ws, e1, e2⟩ := W.ob i _ hs
        have l1 := rs.len
        rcases vs with _ | ⟨w, vs⟩
        · rw [e2.len] at hy
          obtain ⟨w, h1, rw1⟩ := e2.getD hy
          obtain ⟨S, W'⟩ := wr_ok (vs := ws.dropLast) W hb hw fun _ => e2.dl
          exact mt_pop pins s σ H _ _ v us Q I rx rv ⟨m i, ws, w, rfl, rfl, e1, h1, q m _ _ S W' (rw1.step S _ _)⟩
        · cases l1
      · exact q.elim
    · exact q.elim
  · exact q.elim
theorem mr_popi : MtR X "list.pop" (rMe X.K .popi) := by
  intro pins s σ H x vs v us Q I rx rv h
  obtain ⟨bs, b, m, st, d, ds, own, W, hb, r, rs, q⟩ := h
  obtain ⟨i, xs, rfl, hs, q⟩ := meD_list rfl q
  obtain ⟨hi, rfl⟩ := r.place
  rcases ds with _ | ⟨y, _ | ⟨z, ds⟩⟩
  · exact q.elim
  · cases y with
    | int k =>
      unfold meL at q
      simp only at q
      split at q
      · rename_i hz
        rw [Bool.and_eq_true] at hz
        split at q
        · rename_i j hj
          split at q
          · rename_i y hy
            split at q
            · rename_i st' hw
              obtain ⟨ws, e1, e2⟩ := W.ob i _ hs
              have l1 := rs.len
              rcases vs with _ | ⟨w, _ | ⟨w', vs⟩⟩
              · cases l1
              · obtain ⟨w0, h1, rw1⟩ := rs.getD (i := 0) rfl
                cases h1
                have e := rw1.intV
                subst e
                rw [e2.len] at hj
                obtain ⟨w, h1, rw2⟩ := e2.getD hy
                obtain ⟨S, W'⟩ := wr_ok (vs := ws.eraseIdx j) W hb hw fun _ => e2.eras j
                exact mt_popAt pins s σ H _ _ v us Q I rx rv ⟨m i, ws, k, j, w, rfl, rfl, e1, of_decide_eq_true hz.1, of_decide_eq_true hz.2, hj, h1, q m _ _ S W' (rw2.step S _ _)⟩
              · cases l1
            · exact q.elim
          · exact q.elim
        · exact q.elim
      · exact q.elim
    | _ => exact q.elim
  · rcases y with _ | _ | _ | _ | _ | _ | _ | _ | _ | _ | _ <;> exact q.elim
end
end Mi
end
section
/-! Mi, part 12: methods of texts and dicts; calls of methods. -/
namespace Mi
open PySem PySem.Spec PyProof.Rows L2
section
variable {X : Cx} {bs : Bs} {R : Rt} {b : Nat}
def isSM (m : ME) : Bool := decide (m = .split) || decide (m = .find) || decide (m = .upper) || decide (m = .lower) || decide (m = .startswith)
def rStr (K : PySem.W.Frag) (m : ME) : V → List V → Hp → VK → Prop := fun x vs H Q => ∃ bs mm st z ds own, Wf K bs mm st H ∧ x = .str z ∧ RDL K mm st.length H ds vs ∧ Ok K bs (RD K) mm st.length H Q ((meV m (.str z) ds).fin own st)
theorem RD.strV {K : PySem.W.Frag} {m : Nat → Addr} {n : Nat} {H : Hp} {i : Str} {v : V} (h : RD K m n H (.str i) v) : v = .str i := by
  unfold RD at h
  exact h
theorem mr_str : ∀ {m : ME}, isSM m = true → MtR X (meI m) (rStr X.K m) := by
  intro m hm pins s σ H x vs v us Q I rx rv h
  obtain ⟨bs, mm, st, z, ds, own, W, rfl, rs, q⟩ := h
  cases m with
  | split =>
    rcases ds with _ | ⟨y, _ | ⟨z', ds⟩⟩
    · exact q.elim
    · cases y with
      | str c =>
        obtain ⟨w, rfl, rw1⟩ := rs.oneV
        have e := rw1.strV
        subst e
        have q' : Ok X.K bs (RD X.K) mm st.length H Q ((if (c.length == 0) == false && Nat.ble (z.length + 2) big then PR.newL ((Txt.split z c).map .str) else .bad).fin own st) := q
        split at q'
        · rename_i hz
          rw [Bool.and_eq_true] at hz
          exact mt_split pins s σ H _ _ v us Q I rx rv ⟨_, _, rfl, rfl, by simpa using hz.1, le_line hz.2 rfl, (Ok.fin_new W RDL.strs q').2⟩
        · exact q'.elim
      | _ => exact q.elim
    · cases y <;> exact q.elim
  | find =>
    rcases ds with _ | ⟨y, _ | ⟨z', ds⟩⟩
    · exact q.elim
    · cases y with
      | str c =>
        obtain ⟨w, rfl, rw1⟩ := rs.oneV
        have e := rw1.strV
        subst e
        exact mt_find pins s σ H _ _ v us Q I rx rv ⟨_, _, rfl, rfl, (Ok.fin_val (d := .int (Txt.find z c)) q).at W (by unfold RD; rfl)⟩
      | _ => exact q.elim
    · cases y <;> exact q.elim
  | upper =>
    rcases ds with _ | ⟨y, ds⟩
    · have e := rs.zeroV
      subst e
      have q' : Ok X.K bs (RD X.K) mm st.length H Q ((if Nat.ble z.length 5592405 then PR.val (.str (Txt.upper z)) else .bad).fin own st) := q
      split at q'
      · rename_i hz
        exact mt_upper pins s σ H _ _ v us Q I rx rv ⟨_, rfl, rfl, Nat.le_of_ble_eq_true hz, (Ok.fin_val q').at W (by unfold RD; rfl)⟩
      · exact q'.elim
    · exact q.elim
  | lower =>
    rcases ds with _ | ⟨y, ds⟩
    · have e := rs.zeroV
      subst e
      have q' : Ok X.K bs (RD X.K) mm st.length H Q ((if Nat.ble z.length 5592405 then PR.val (.str (Txt.lower z)) else .bad).fin own st) := q
      split at q'
      · rename_i hz
        exact mt_lower pins s σ H _ _ v us Q I rx rv ⟨_, rfl, rfl, Nat.le_of_ble_eq_true hz, (Ok.fin_val q').at W (by unfold RD; rfl)⟩
      · exact q'.elim
    · exact q.elim
  | startswith =>
    rcases ds with _ | ⟨y, _ | ⟨z', ds⟩⟩
    · exact q.elim
    · cases y with
      | str c =>
        obtain ⟨w, rfl, rw1⟩ := rs.oneV
        have e := rw1.strV
        subst e
        exact mt_startswith pins s σ H _ _ v us Q I rx rv ⟨_, _, rfl, rfl, (Ok.fin_val (d := .bl (Txt.startswith z c)) q).at W (by unfold RD; rfl)⟩
      | _ => exact q.elim
    · cases y <;> exact q.elim
  | _ => cases hm
/-! ### the calls -/
/-- by the kind of what has the method -/
theorem tyV_of {K : PySem.W.Frag} {m : Nat → Addr} {n : Nat} {H : Hp} {me : ME} {d : D} {x : V} (hm : (isLM me || isSM me) = true) (h : Rn K m n H d x) (hk : isK me d = true) : tyV K (meTy me) x H := by
  cases d with
  | lst xs =>
    obtain ⟨p, vs, rfl, e1, _⟩ := h
    have ht : meTy me = "list" := by cases me <;> first | rfl | (exact absurd (show false = true from hk) Bool.false_ne_true)
    exact .inl ⟨ht, vs, SqL.of e1⟩
  | str z =>
    have e := h.str
    subst e
    have ht : meTy me = "str" := by cases me <;> first | rfl | (exact absurd (show false = true from hk) Bool.false_ne_true)
    exact ht
  | dct ks ds =>
    cases me <;> first | exact absurd (show false = true from hk) Bool.false_ne_true | exact absurd (show false = true from hm) Bool.false_ne_true
  | _ => exact absurd hk (by unfold isK; exact Bool.false_ne_true)
theorem isK_str {me : ME} {d : D} (hm : isSM me = true) (hk : isK me d = true) : ∃ z, d = .str z := by
  cases d with
  | str z => exact ⟨z, rfl⟩
  | lst xs => cases me <;> first | exact absurd (show false = true from hk) Bool.false_ne_true | exact absurd (show false = true from hm) Bool.false_ne_true
  | dct ks ds => cases me <;> first | exact absurd (show false = true from hk) Bool.false_ne_true | exact absurd (show false = true from hm) Bool.false_ne_true
  | _ => exact absurd hk (by unfold isK; exact Bool.false_ne_true)
theorem der_str {st : Store} {d : D} {z : Str} (h : der st d = .str z) : d = .str z := by
  cases d with
  | loc i =>
    unfold der at h
    simp only at h
    split at h <;> cases h
  | _ => exact h
theorem mr_list : ∀ {me : ME}, isLM me = true → MtR X (meI me) (rMe X.K me) := by
  intro me h
  cases me with
  | append => exact mr_append
  | extend => exact mr_extend
  | pop => exact mr_pop
  | popi => exact mr_popi
  | _ => cases h
/-- both kinds -/
def rLS (K : PySem.W.Frag) (m : ME) : V → List V → Hp → VK → Prop := fun x vs H Q => (isLM m = true ∧ rMe K m x vs H Q) ∨ (isSM m = true ∧ rStr K m x vs H Q)
theorem mr_ls {me : ME} : MtR X (meI me) (rLS X.K me) := by
  intro pins s σ H x vs v us Q I rx rv h
  rcases h with ⟨h1, h⟩ | ⟨h1, h⟩
  · exact mr_list h1 pins s σ H x vs v us Q I rx rv h
  · exact mr_str h1 pins s σ H x vs v us Q I rx rv h
theorem rLS_of {me : ME} {m m1 : Nat → Addr} {st st1 : Store} {H H1 : Hp} {d : D} {ds : List D} {x : V} {vs : List V} {own : Bool} {Q : VK} (hm : (isLM me || isSM me) = true) (hb : ∀ c ∈ bs, c ≤ b) (hk : isK me (der st d) = true) (r : RD X.K m st.length H d x) (s1 : Stp m st.length H m1 st1.length H1)
    (W1 : Wf X.K bs m1 st1 H1) (rs : RDL X.K m1 st1.length H1 ds vs) (q : Ok X.K bs (RD X.K) m1 st1.length H1 Q ((meD b st1 me d ds).bind fun pr st3 => pr.fin own st3)) : rLS X.K me x vs H1 Q := by
  rw [Bool.or_eq_true] at hm
  rcases hm with hm | hm
  · exact .inl ⟨hm, bs, b, m1, st1, d, ds, own, W1, hb, r.step s1 _ _, rs, q⟩
  · obtain ⟨z, hz⟩ := isK_str hm hk
    have e := der_str hz
    subst e
    exact .inr ⟨hm, bs, m1, st1, z, ds, own, W1, r.strV, rs, q⟩
theorem ed_me0 (hb : ∀ c ∈ bs, c ≤ b) {me : ME} {own : Bool} {o : E} {eo : Expr} {apos pos : Pos} (hm : (isLM me || isSM me) = true) (ho : PEd X bs (ev R b o) eo) (hbase : attributeBase eo (meN me) X.env (eval eo X.env) = eval eo X.env) (hline : (apos.endLine == pos.line) = true) :
    PEd X bs (ev R b (.me me own o .nil)) (.Call (.Attribute eo (meN me) apos) [] [] pos) := by
  refine PE.by (pe_bm0 (me_plain me) (me_slot me) (me_type me) mr_ls ho hbase hline) ?_
  intro σ H Q hh
  obtain ⟨m, σd, st, W, r, q⟩ := hh
  have q' : Ok X.K bs (RD X.K) m st.length H Q ((ev R b o σd st).bind fun d st1 => if isK me (der st1 d) then (Res.ok [] st1).bind fun ds st2 => (meD b st2 me d ds).bind fun pr st3 => pr.fin own st3 else .bad) := by unfold ev evA at q; exact q
  refine ⟨m, σd, st, W, r, (q'.bind (rel := RD X.K)).mono ?_⟩
  intro v H1 h1
  obtain ⟨m1, st1, d, s1, W1, r1, q1⟩ := h1
  split at q1
  · rename_i hk
    exact ⟨tyV_of hm (r1.now W1) hk, rLS_of hm hb hk r1 Stp.refl W1 RDL.nil q1⟩
  · exact q1.elim
theorem ed_me1 (hb : ∀ c ∈ bs, c ≤ b) {me : ME} {own : Bool} {o e : E} {eo ee : Expr} {apos pos : Pos} (hm : (isLM me || isSM me) = true) (ho : PEd X bs (ev R b o) eo) (ha : PAd X bs (evA R b (.cons e .nil)) [ee]) (hbase : attributeBase eo (meN me) X.env (eval eo X.env) = eval eo X.env) (hline : (apos.endLine == pos.line) = true)
    (hs : starEach [ee] X.env = [(false, eval ee X.env)]) : PEd X bs (ev R b (.me me own o (.cons e .nil))) (.Call (.Attribute eo (meN me) apos) [ee] [] pos) := by
  refine PE.by (pe_bm (me_plain me) (me_slot me) (me_type me) mr_ls ho ha hbase (by rw [hs]; rfl) hline hs rfl) ?_
  intro σ H Q hh
  obtain ⟨m, σd, st, W, r, q⟩ := hh
  have q' : Ok X.K bs (RD X.K) m st.length H Q ((ev R b o σd st).bind fun d st1 => if isK me (der st1 d) then (evA R b (.cons e .nil) σd st1).bind fun ds st2 => (meD b st2 me d ds).bind fun pr st3 => pr.fin own st3 else .bad) := by unfold ev at q; exact q
  refine ⟨m, σd, st, W, r, (q'.bind (rel := RD X.K)).mono ?_⟩
  intro v H1 h1
  obtain ⟨m1, st1, d, s1, W1, r1, q1⟩ := h1
  split at q1
  · rename_i hk
    refine ⟨tyV_of hm (r1.now W1) hk, m1, σd, st1, W1, r.step s1, (q1.bind (rel := RDL X.K)).mono ?_⟩
    intro vs H2 h2
    obtain ⟨m2, st2, ds, s2, W2, r2, q2⟩ := h2
    exact rLS_of hm hb hk r1 s2 W2 r2 q2
  · exact q1.elim
/-! ### d.get -/
theorem der_dct {st : Store} {d : D} {ks vs : List D} (h : der st d = .dct ks vs) : d = .dct ks vs ∨ ∃ i, d = .loc i ∧ st[i]? = some (.dct ks vs) := by
  cases d with
  | loc i =>
    unfold der at h
    simp only at h
    split at h
    · cases h
    · rename_i ks' vs' e
      cases h
      exact .inr ⟨i, rfl, e⟩
    · cases h
  | _ => exact .inl h
theorem isK_get {d : D} {me : ME} (hm : me = .get1 ∨ me = .get2) (h : isK me d = true) : ∃ ks vs, d = .dct ks vs := by
  cases d with
  | dct ks vs => exact ⟨ks, vs, rfl⟩
  | lst xs => rcases hm with rfl | rfl <;> cases h
  | str z => rcases hm with rfl | rfl <;> cases h
  | _ => cases h
theorem meD_get {K : PySem.W.Frag} {me : ME} (hm : me = .get1 ∨ me = .get2) {mm : Nat → Addr} {n : Nat} {H : Hp} {Q : VK} {st : Store} {d : D} {ds : List D} {own : Bool} (q : Ok K bs (RD K) mm n H Q ((meD b st me d ds).bind fun pr st3 => pr.fin own st3)) :
    Ok K bs (RD K) mm n H Q ((meV me (der st d) ds).fin own st) := by
  unfold meD at q
  split at q
  · rename_i i
    split at q
    · rename_i xs hs
      rcases hm with rfl | rfl
      · exact q.elim
      · exact q.elim
    · rename_i ks vs hs
      have e : der st (.loc i) = .dct ks vs := by unfold der; simp only [hs]
      rw [e]
      exact q
    · exact q.elim
  · rename_i x hx
    have e : der st d = d := by
      cases d with
      | loc i => exact absurd rfl (hx i)
      | _ => rfl
    rw [e]
    exact q
theorem Rn.isDD {K : PySem.W.Frag} {m : Nat → Addr} {n : Nat} {H : Hp} {ks ds : List D} {v : V} (h : Rn K m n H (.dct ks ds) v) : ∃ a, v = .ref a ∧ IsD H a := by
  obtain ⟨p, kk, vs, e, h1, _⟩ := h
  exact ⟨p, e, .inl ⟨_, h1⟩⟩
theorem ed_get1 {N : List Str} {sc os : Scope} {k : Nat} (F : XF X N sc os k) {own : Bool} {o e : E} {eo ee : Expr} {apos pos : Pos} (ho : PEd X bs (ev R b o) eo) (he : PEd X bs (ev R b e) ee) (M : M1 X eo "get" apos ee pos) :
    PEd X bs (ev R b (.me .get1 own o (.cons e .nil))) (.Call (.Attribute eo "get" apos) [ee] [] pos) := by
  refine PE.by (pe_dget1 (by have := F.un; omega) ho he M) ?_
  intro σ H Q hh
  obtain ⟨m, σd, st, W, r, q⟩ := hh
  have q' : Ok X.K bs (RD X.K) m st.length H Q ((ev R b o σd st).bind fun d st1 => if isK .get1 (der st1 d) then ((ev R b e σd st1).bind fun d st1 => (Res.ok [] st1).bind fun ds st2 => .ok (d :: ds) st2).bind fun ds st2 => (meD b st2 .get1 d ds).bind fun pr st3 => pr.fin own st3 else .bad) := by unfold ev evA evA at q; exact q
  refine ⟨m, σd, st, W, r, (q'.bind (rel := RD X.K)).mono ?_⟩
  intro v H1 h1
  obtain ⟨m1, st1, d, s1, W1, r1, q1⟩ := h1
  split at q1
  · rename_i hk
    obtain ⟨ks, vs, hd⟩ := isK_get (.inl rfl) hk
    have rn := r1.now W1
    rw [hd] at rn
    obtain ⟨a, rfl, hD⟩ := rn.isDD
    refine ⟨a, rfl, hD, m1, σd, st1, W1, r.step s1, ?_⟩
    have q1' : Ok X.K bs (RD X.K) m1 st1.length H1 Q ((ev R b e σd st1).bind fun y st2 => (meD b st2 .get1 d [y]).bind fun pr st3 => pr.fin own st3) := by
      cases hv : ev R b e σd st1 with
      | bad => rw [hv] at q1; exact q1
      | ok y st2 => rw [hv] at q1; exact q1
    refine (q1'.bind (rel := RD X.K)).mono ?_
    intro y H2 h2
    obtain ⟨m2, st2, dy, s2, W2, r2, q2⟩ := h2
    have q3 := meD_get (.inl rfl) q2
    have rn2 := (r1.step s2 _ _).now W2
    cases hd2 : der st2 d with
    | dct ks2 vs2 =>
      rw [hd2] at q3 rn2
      have q4 : Ok X.K bs (RD X.K) m2 st2.length H2 Q ((match keyOf dy with
        | some _ => PR.val ((getK dy ks2 vs2).getD .non)
        | none => .bad).fin own st2) := q3
      split at q4
      · rename_i kk hkk
        obtain ⟨a', o', e1, g, _, hget⟩ := Rn.dget (k := dy) (y := y) rn2 (by
          have e := keyOf_some hkk
          subst e
          cases kk with
          | inl i => exact r2
          | inr z => exact r2) hkk
        cases e1
        refine ⟨o', g, ?_⟩
        rcases hget with ⟨h1, h2⟩ | ⟨d', w, h1, h3, h4⟩
        · rw [h1] at q4
          rw [h2]
          exact (Ok.fin_val q4).at W2 (by show RD X.K m2 st2.length H2 .non .non; unfold RD; rfl)
        · rw [h1] at q4
          rw [h3]
          exact (Ok.fin_val q4).at W2 h4
      · exact q4.elim
    | _ => rw [hd2] at q3; exact q3.elim
  · exact q1.elim
theorem ed_get2 {N : List Str} {sc os : Scope} {k : Nat} (F : XF X N sc os k) {own : Bool} {o e f : E} {eo ee ef : Expr} {apos pos : Pos} (ho : PEd X bs (ev R b o) eo) (he : PEd X bs (ev R b e) ee) (hf : PEd X bs (ev R b f) ef) (M : M2 X eo "get" apos ee ef pos) :
    PEd X bs (ev R b (.me .get2 own o (.cons e (.cons f .nil)))) (.Call (.Attribute eo "get" apos) [ee, ef] [] pos) := by
  refine PE.by (pe_dget2 (by have := F.un; omega) ho he hf M) ?_
  intro σ H Q hh
  obtain ⟨m, σd, st, W, r, q⟩ := hh
  have q' : Ok X.K bs (RD X.K) m st.length H Q ((ev R b o σd st).bind fun d st1 => if isK .get2 (der st1 d) then (evA R b (.cons e (.cons f .nil)) σd st1).bind fun ds st2 => (meD b st2 .get2 d ds).bind fun pr st3 => pr.fin own st3 else .bad) := by unfold ev at q; exact q
  refine ⟨m, σd, st, W, r, (q'.bind (rel := RD X.K)).mono ?_⟩
  intro v H1 h1
  obtain ⟨m1, st1, d, s1, W1, r1, q1⟩ := h1
  split at q1
  · rename_i hk
    obtain ⟨ks, vs, hd⟩ := isK_get (.inr rfl) hk
    have rn := r1.now W1
    rw [hd] at rn
    obtain ⟨a, rfl, hD⟩ := rn.isDD
    refine ⟨a, rfl, hD, m1, σd, st1, W1, r.step s1, ?_⟩
    have q1' : Ok X.K bs (RD X.K) m1 st1.length H1 Q ((ev R b e σd st1).bind fun y st2 => (ev R b f σd st2).bind fun z st3 => (meD b st3 .get2 d [y, z]).bind fun pr st3 => pr.fin own st3) := by
      unfold evA evA evA at q1
      cases hv : ev R b e σd st1 with
      | bad => rw [hv] at q1; exact q1
      | ok y st2 =>
        rw [hv] at q1
        show Ok X.K bs (RD X.K) m1 st1.length H1 Q ((ev R b f σd st2).bind fun z st3 => (meD b st3 .get2 d [y, z]).bind fun pr st3 => pr.fin own st3)
        have q2 : Ok X.K bs (RD X.K) m1 st1.length H1 Q ((((ev R b f σd st2).bind fun d st1 => (Res.ok [] st1).bind fun ds st2 => .ok (d :: ds) st2).bind fun ds st2 => .ok (y :: ds) st2).bind fun ds st2 => (meD b st2 .get2 d ds).bind fun pr st3 => pr.fin own st3) := q1
        cases hv2 : ev R b f σd st2 with
        | bad => rw [hv2] at q2; exact q2
        | ok z st3 => rw [hv2] at q2; exact q2
    refine (q1'.bind (rel := RD X.K)).mono ?_
    intro y H2 h2
    obtain ⟨m2, st2, dy, s2, W2, r2, q2⟩ := h2
    refine ⟨m2, σd, st2, W2, (r.step s1).step s2, (q2.bind (rel := RD X.K)).mono ?_⟩
    intro z H3 h3
    obtain ⟨m3, st3, dz, s3, W3, r3, q3⟩ := h3
    have q3 := meD_get (.inr rfl) q3
    have rn2 := ((r1.step s2 _ _).step s3 _ _).now W3
    cases hd2 : der st3 d with
    | dct ks2 vs2 =>
      rw [hd2] at q3 rn2
      have q4 : Ok X.K bs (RD X.K) m3 st3.length H3 Q ((match keyOf dy with
        | some _ => PR.val ((getK dy ks2 vs2).getD dz)
        | none => .bad).fin own st3) := q3
      split at q4
      · rename_i kk hkk
        obtain ⟨a', o', e1, g, _, hget⟩ := Rn.dget (k := dy) (y := y) rn2 (by
          have e := keyOf_some hkk
          subst e
          cases kk with
          | inl i => exact r2.step s3 _ _
          | inr z => exact r2.step s3 _ _) hkk
        cases e1
        refine ⟨o', g, ?_⟩
        rcases hget with ⟨h1, h2⟩ | ⟨d', w, h1, h3, h4⟩
        · rw [h1] at q4
          rw [h2]
          exact (Ok.fin_val q4).at W3 r3
        · rw [h1] at q4
          rw [h3]
          exact (Ok.fin_val q4).at W3 h4
      · exact q4.elim
    | _ => rw [hd2] at q3; exact q3.elim
  · exact q1.elim
end
end Mi
end
section
/-! Mi, part 13: targets, walks. -/
namespace Mi
open PySem PySem.Spec PyProof.Rows L2
section
variable {X : Cx} {bs : Bs} {R : Rt} {b : Nat}
/-! ### targets -/
/-- the slots that a target takes -/
def tnm : T → List Nat
  | .nm i => [i]
  | .tp t => tnm t
  | .nil => []
  | .cons t r => tnm t ++ tnm r
/-- alike but at these slots -/
def Lk (is : List Nat) (σ σ' : L2.St) : Prop := σ'.length = σ.length ∧ ∀ i, i ∉ is → σ'[i]? = σ[i]?
theorem Lk.refl {is : List Nat} {σ : L2.St} : Lk is σ σ := ⟨rfl, fun _ _ => rfl⟩
theorem Lk.trans {is js : List Nat} {σ σ1 σ2 : L2.St} (a : Lk is σ σ1) (b : Lk js σ1 σ2) : Lk (is ++ js) σ σ2 :=
  ⟨b.1.trans a.1, fun i h => (b.2 i fun z => h (List.mem_append_right _ z)).trans (a.2 i fun z => h (List.mem_append_left _ z))⟩
def tG (K : PySem.W.Frag) (f : D → Sg → Option Sg) (is : List Nat) : TG := fun v σ H Q => ∃ (m : Nat → Addr) (n : Nat) (σd : Sg) (d : D) (σd' : Sg), RS K m n H σd σ ∧ RD K m n H d v ∧ f d σd = some σd' ∧ ∀ σ', RS K m n H σd' σ' → Lk is σ σ' → Q σ' H
def tGs (K : PySem.W.Frag) (f : List D → Sg → Option Sg) (is : List Nat) : TGs := fun vs σ H Q => ∃ (m : Nat → Addr) (n : Nat) (σd : Sg) (ds : List D) (σd' : Sg), RS K m n H σd σ ∧ RDL K m n H ds vs ∧ f ds σd = some σd' ∧ ∀ σ', RS K m n H σd' σ' → Lk is σ σ' → Q σ' H
abbrev PGd (X : Cx) (t : T) (e : Expr) : Prop := PG X e (tG X.K (asgT t) (tnm t))
abbrev PGsd (X : Cx) (t : T) (es : List Expr) : Prop := PGs X es (tGs X.K (asgL t) (tnm t))
theorem PG.by {e : Expr} {t t' : TG} (h : PG X e t) (hi : ∀ v σ H Q, t' v σ H Q → t v σ H Q) : PG X e t' := ⟨fun pins s σ H v u Q I r hw => h.run pins s σ H v u Q I r (hi v σ H Q hw)⟩
theorem PGs.by {e : List Expr} {t t' : TGs} (h : PGs X e t) (hi : ∀ v σ H Q, t' v σ H Q → t v σ H Q) : PGs X e t' := ⟨fun pins s σ H v u Q I r hw => h.run pins s σ H v u Q I r (hi v σ H Q hw)⟩
theorem eg_name {i : Nat} {x : Str} {pos : Pos} (hN : X.N.Nodup) (hi : X.N[i]? = some x) (hx : Loc X.env.scope x) (hf : X.fn x = true ∨ X.env.scope.names.lookup x = some .local) : PGd X (.nm i) (.Name x pos) := by
  refine PG.by (pg_name hN hi hx hf) ?_
  intro v σ H Q h
  obtain ⟨m, n, σd, d, σd', r, rd, e, q⟩ := h
  unfold asgT at e
  cases e
  refine q _ (r.set i rd) ⟨List.length_set, fun j hj => ?_⟩
  exact List.getElem?_set_ne fun z => hj (by subst z; exact List.mem_singleton.mpr rfl)
theorem eg_nil : PGsd X .nil [] := by
  refine PGs.by pgs_nil ?_
  intro v σ H Q h
  obtain ⟨m, n, σd, ds, σd', r, rd, e, q⟩ := h
  unfold asgL at e
  cases ds with
  | nil =>
    cases e
    exact ⟨rd.zeroV, q _ r Lk.refl⟩
  | cons d ds => cases e
theorem eg_cons {t u : T} {e : Expr} {es : List Expr} (h1 : PGd X t e) (h2 : PGsd X u es) (hs : (assignEach (e :: es) X.env).map (·.2) = assign e X.env :: (assignEach es X.env).map (·.2)) : PGsd X (.cons t u) (e :: es) := by
  refine PGs.by (pgs_cons h1 h2 hs) ?_
  intro v σ H Q h
  obtain ⟨m, n, σd, ds, σd', r, rd, e, q⟩ := h
  unfold asgL at e
  cases ds with
  | nil => cases e
  | cons d ds =>
    simp only at e
    split at e
    · rename_i σ1 h1
      unfold RDL at rd
      obtain ⟨w, vs, rfl, rd1, rd2⟩ := rd
      exact ⟨w, vs, rfl, m, n, σd, d, σ1, r, rd1, h1, fun σ' r' l1 => ⟨m, n, σ1, ds, σd', r', rd2, e, fun σ2 r2 l2 => q σ2 r2 (l1.trans l2)⟩⟩
    · cases e
def lenT : T → Nat
  | .cons _ r => lenT r + 1
  | _ => 0
theorem asgL_len : ∀ {t : T} {ds : List D} {σ σ' : Sg}, asgL t ds σ = some σ' → ds.length = lenT t
  | .nil, ds, σ, σ', e => by
    unfold asgL at e
    cases ds with
    | nil => rfl
    | cons d ds => cases e
  | .cons t r, ds, σ, σ', e => by
    unfold asgL at e
    cases ds with
    | nil => cases e
    | cons d ds =>
      simp only at e
      split at e
      · unfold lenT
        rw [List.length_cons, asgL_len e]
      · cases e
  | .nm _, ds, σ, σ', e => by
    unfold asgL at e
    cases e
  | .tp _, ds, σ, σ', e => by
    unfold asgL at e
    cases e
theorem eg_tup {t : T} {es : List Expr} {k : Nat} {pos : Pos} (hc : X.calm = true) (h : PGsd X t es) (hn : (assignEach es X.env).length = lenT t) (hst : (assignEach es X.env).findIdx? (·.1) = none) : PGd X (.tp t) (.Tuple es k pos) := by
  refine PG.by (pg_tup hc h hn hst) ?_
  intro v σ H Q h
  obtain ⟨m, n, σd, d, σd', r, rd, e, q⟩ := h
  unfold asgT at e
  cases d with
  | tup xs =>
    obtain ⟨p, vs, rfl, e1, r1⟩ := rd.tupT
    exact ⟨p, vs, rfl, e1, by rw [← r1.len]; exact asgL_len e, m, n, σd, xs, σd', r, r1, e, q⟩
  | _ => cases e

/-! ### walks -/
def wkNow (w : Wk) (st : Store) : Option (List D) :=
  match w with
  | .items xs => some xs
  | .loc q => nowL q st
  | .enumL q => nowE q st
  | .bad => none
/-- what the iterator gives, turn by turn -/
def WkOk (K : PySem.W.Frag) (bs : Bs) (w : Wk) (m : Nat → Addr) (n : Nat) (H : Hp) (J : It) : Prop :=
  ∀ m' st' H' ys, Stp m n H m' st'.length H' → Wf K bs m' st' H' → wkNow w st' = some ys → ∀ i,
    (ys[i]? = none → J.stop i H') ∧ ∀ d, ys[i]? = some d → J.go i H' ∧ ∀ x H'', J.yld i H' x H'' → Stp m' st'.length H' m' st'.length H'' ∧ Wf K bs m' st' H'' ∧ RD K m' st'.length H'' d x
abbrev rW (K : PySem.W.Frag) (bs : Bs) : Rl Wk It := fun m n H w J => WkOk K bs w m n H J
abbrev PId (X : Cx) (bs : Bs) (f : Sg → Store → Res Wk) (tg e : Expr) : Prop := PI X tg e (tX X.K bs (rW X.K bs) f)
def evI (R : Rt) (b : Nat) (ik : IK) (it : E) (σ : Sg) (st : Store) : Res Wk := (evA R b it σ st).bind fun ds st0 => toW ik ds st0
theorem PI.by {tg e : Expr} {t t' : TI} (h : PI X tg e t) (hi : ∀ σ H Q, t' σ H Q → t σ H Q) : PI X tg e t' := ⟨fun pins s σ H Q I hw => h.run pins s σ H Q I (hi σ H Q hw)⟩
/-- a list or a tuple -/
theorem pi_seq {tg l : Expr} {tl : TE} (hl : PE X l tl) : PI X tg l (fun σ H R => tl σ H fun x H1 => ∃ a, x = .ref a ∧ (((∃ xs, SqL X.K H1 a xs) ∧ R (Itl X.K a) H1) ∨ ((∃ xs, SqT X.K H1 a xs) ∧ R (Itt X.K a) H1))) := by
  refine ⟨fun pins s σ H R I h => ?_⟩
  refine thn (hl.run pins s σ H _ I h) ?_
  intro v s1 hv
  obtain ⟨x, H1, I1, r1, a, e, q⟩ := hv
  subst e
  cases r1
  rcases q with ⟨⟨xs, hq⟩, q⟩ | ⟨⟨xs, hq⟩, q⟩
  · obtain ⟨its, rv, p, hz⟩ := I1.list hq
    exact wpAny_pyIter_list p.isList (pi_one (tk := s1.toks) I1 _ (turn_list a _) ⟨_, Heap.get?_push_size _ rfl, rfl, rfl⟩ q)
  · obtain ⟨its, rv, p, hz⟩ := I1.tuple hq
    exact wpAny_pyIter_tuple (show s1.heap.IsTuple a its.toArray from p) (pi_one (tk := s1.toks) I1 _ (turn_tuple a _) ⟨_, Heap.get?_push_size _ rfl, rfl, rfl⟩ q)
theorem rw_lst {ds : List D} {m : Nat → Addr} {n : Nat} {H : Hp} {v : V} (h : RD X.K m n H (.lst ds) v) : ∃ p, v = .ref p ∧ (∃ xs, SqL X.K H p xs) ∧ WkOk X.K bs (.items ds) m n H (Itl X.K p) := by
  have h0 := h
  unfold RD at h
  obtain ⟨p, vs, rfl, e1, o, r⟩ := h
  refine ⟨p, rfl, ⟨vs, SqL.of e1⟩, ?_⟩
  intro m' st' H' ys S W' e i
  cases e
  have e2 : H' p = some (.lst vs) := S.kp p _ e1 rfl o
  have r' := r.step S _ _
  refine ⟨fun h1 => ⟨vs, SqL.of e2, ?_⟩, fun d h1 => ?_⟩
  · rw [← r.len]
    exact List.getElem?_eq_none_iff.mp h1
  · obtain ⟨v, hv, rv⟩ := r'.getD h1
    refine ⟨⟨vs, v, SqL.of e2, hv⟩, fun x H'' y => ?_⟩
    obtain ⟨rfl, y⟩ := y
    have := y vs (SqL.of e2)
    rw [hv] at this
    cases this
    exact ⟨Stp.refl, W', rv⟩
theorem rw_tup {ds : List D} {m : Nat → Addr} {n : Nat} {H : Hp} {v : V} (h : RD X.K m n H (.tup ds) v) : ∃ p, v = .ref p ∧ (∃ xs, SqT X.K H p xs) ∧ WkOk X.K bs (.items ds) m n H (Itt X.K p) := by
  obtain ⟨p, vs, rfl, e1, r⟩ := h.tupT
  refine ⟨p, rfl, ⟨vs, e1⟩, ?_⟩
  intro m' st' H' ys S W' e i
  cases e
  obtain ⟨p', vs', e0, e2, r'⟩ := (h.step S _ _).tupT
  cases e0
  refine ⟨fun h1 => ⟨vs', e2, ?_⟩, fun d h1 => ?_⟩
  · rw [← r'.len]
    exact List.getElem?_eq_none_iff.mp h1
  · obtain ⟨v, hv, rv⟩ := r'.getD h1
    refine ⟨⟨vs', v, e2, hv⟩, fun x H'' y => ?_⟩
    obtain ⟨rfl, y⟩ := y
    have := y vs' e2
    rw [hv] at this
    cases this
    exact ⟨Stp.refl, W', rv⟩
theorem nowL_at {st : Store} {p : Nat} {ys : List D} (h : nowL p st = some ys) : st[p]? = some (.lst ys) := by
  unfold nowL at h
  split at h
  · cases h
    assumption
  · cases h
theorem rw_loc {q : Nat} {m : Nat → Addr} {n : Nat} {H : Hp} (hq : q < n) : WkOk X.K bs (.loc q) m n H (Itl X.K (m q)) := by
  intro m' st' H' ys S W' e i
  have e' := nowL_at e
  obtain ⟨vs, e2, r'⟩ := W'.ob q _ e'
  rw [S.eq q hq] at e2
  refine ⟨fun h1 => ⟨vs, SqL.of e2, ?_⟩, fun d h1 => ?_⟩
  · rw [← r'.len]
    exact List.getElem?_eq_none_iff.mp h1
  · obtain ⟨v, hv, rv⟩ := r'.getD h1
    refine ⟨⟨vs, v, SqL.of e2, hv⟩, fun x H'' y => ?_⟩
    obtain ⟨rfl, y⟩ := y
    have := y vs (SqL.of e2)
    rw [hv] at this
    cases this
    exact ⟨Stp.refl, W', rv⟩
theorem ei_seq {tg ex : Expr} {e : E} (he : PEd X bs (ev R b e) ex) : PId X bs (evI R b .seq (.cons e .nil)) tg ex := by
  refine PI.by (pi_seq he) ?_
  intro σ H Q hh
  obtain ⟨m, σd, st, W, r, q⟩ := hh
  have q1 : Ok X.K bs (rW X.K bs) m st.length H Q ((ev R b e σd st).bind fun d st1 => toW .seq [d] st1) := by
    unfold evI evA evA at q
    cases hv : ev R b e σd st with
    | bad => rw [hv] at q; exact q
    | ok d st1 => rw [hv] at q; exact q
  refine ⟨m, σd, st, W, r, (q1.bind (rel := RD X.K)).mono ?_⟩
  intro v H1 h1
  obtain ⟨m1, st1, d, s1, W1, r1, q2⟩ := h1
  unfold toW at q2
  split at q2
  · rename_i hw
    cases d with
    | tup xs =>
      obtain ⟨p, e1, e2, e3⟩ := rw_tup (bs := bs) r1
      exact ⟨p, e1, .inr ⟨e2, q2.at W1 e3⟩⟩
    | lst xs =>
      obtain ⟨p, e1, e2, e3⟩ := rw_lst (bs := bs) r1
      exact ⟨p, e1, .inl ⟨e2, q2.at W1 e3⟩⟩
    | loc i =>
      obtain ⟨hi, rfl⟩ := r1.place
      have hw' : (nowL i st1).isSome = true := hw
      cases hn : nowL i st1 with
      | none => rw [hn] at hw'; cases hw'
      | some ys =>
        obtain ⟨vs, e2, _⟩ := W1.ob i _ (nowL_at hn)
        exact ⟨m1 i, rfl, .inl ⟨⟨vs, SqL.of e2⟩, q2.at W1 (rw_loc hi)⟩⟩
    | _ => exact absurd hw (by unfold walkD wkOk; exact Bool.false_ne_true)
  · exact q2.elim
theorem ei_str {tg ex : Expr} {e : E} (he : PEd X bs (ev R b e) ex) : PId X bs (evI R b .strs (.cons e .nil)) tg ex := by
  refine PI.by (pi_str he) ?_
  intro σ H Q hh
  obtain ⟨m, σd, st, W, r, q⟩ := hh
  have q1 : Ok X.K bs (rW X.K bs) m st.length H Q ((ev R b e σd st).bind fun d st1 => toW .strs [d] st1) := by
    unfold evI evA evA at q
    cases hv : ev R b e σd st with
    | bad => rw [hv] at q; exact q
    | ok d st1 => rw [hv] at q; exact q
  refine ⟨m, σd, st, W, r, (q1.bind (rel := RD X.K)).mono ?_⟩
  intro v H1 h1
  obtain ⟨m1, st1, d, s1, W1, r1, q2⟩ := h1
  unfold toW at q2
  split at q2
  · rename_i hw
    cases d with
    | str z =>
      refine ⟨z, r1.strV, q2.at W1 ?_⟩
      intro m' st' H' ys S W' e' i
      cases e'
      refine ⟨fun h1 => ?_, fun d h1 => ?_⟩
      · have h2 := List.getElem?_eq_none_iff.mp h1
        rw [List.length_map, Array.length_toList] at h2
        exact h2
      · rw [List.getElem?_map, Array.getElem?_toList] at h1
        cases hc : z.cps[i]? with
        | none => rw [hc] at h1; cases h1
        | some c =>
          rw [hc] at h1
          cases h1
          refine ⟨(Array.getElem?_eq_some_iff.mp hc).1, fun x H'' y => ?_⟩
          obtain ⟨rfl, c', hc', rfl⟩ := y
          rw [hc] at hc'
          cases hc'
          exact ⟨Stp.refl, W', by unfold RD; rfl⟩
    | _ => exact absurd hw (by unfold walkD wkOk; exact Bool.false_ne_true)
  · exact q2.elim
theorem rng_get {lo : Int} {n i : Nat} {d : D} (h : (rng lo n)[i]? = some d) : i < n ∧ d = .int (lo + (i : Nat)) := by
  unfold rng at h
  rw [List.getElem?_map] at h
  by_cases hi : i < n
  · rw [List.getElem?_range hi] at h
    cases h
    exact ⟨hi, rfl⟩
  · rw [List.getElem?_eq_none_iff.mpr (by rw [List.length_range]; omega)] at h
    cases h
theorem rw_rng {lo : Int} {k : Nat} {m : Nat → Addr} {n : Nat} {H : Hp} : WkOk X.K bs (.items (rng lo k)) m n H (Itr lo k) := by
  intro m' st' H' ys S W' e' i
  cases e'
  refine ⟨fun h1 => ?_, fun d h1 => ?_⟩
  · have h2 := List.getElem?_eq_none_iff.mp h1
    unfold rng at h2
    rw [List.length_map, List.length_range] at h2
    exact h2
  · obtain ⟨hi, rfl⟩ := rng_get h1
    refine ⟨hi, fun x H'' y => ?_⟩
    obtain ⟨rfl, rfl⟩ := y
    exact ⟨Stp.refl, W', by unfold RD; rfl⟩
theorem lim62_of {i : Int} (h : lim62 i = true) : -(2 ^ 62) ≤ i ∧ i < 2 ^ 62 := by
  have h' : i.natAbs + 1 ≤ 4611686018427387904 := Nat.le_of_ble_eq_true h
  omega
theorem ei_range1 {tg ex : Expr} {e : E} {p pos : Pos} (hg : Gl X "range") (hm : X.mg "range" = none) (ha : PAd X bs (evA R b (.cons e .nil)) [ex]) (hs : starEach [ex] X.env = [(false, eval ex X.env)]) :
    PId X bs (evI R b .range1 (.cons e .nil)) tg (.Call (.Name "range" p) [ex] [] pos) := by
  refine PI.by (pi_range1 hg hm ha hs) ?_
  intro σ H Q hh
  obtain ⟨m, σd, st, W, r, q⟩ := hh
  refine ⟨m, σd, st, W, r, (Ok.bind (rel := RDL X.K) (g := fun ds st0 => toW .range1 ds st0) q).mono ?_⟩
  intro vs H1 h1
  obtain ⟨m1, st1, ds, s1, W1, r1, q2⟩ := h1
  unfold toW at q2
  split at q2
  · rename_i hw
    rcases ds with _ | ⟨d, _ | ⟨d2, ds⟩⟩
    · exact absurd hw (by unfold walkD wkOk; exact Bool.false_ne_true)
    · cases d with
      | int j =>
        obtain ⟨v, rfl, rv⟩ := r1.oneV
        have ev' := rv.intV
        subst ev'
        by_cases hl : lim62 j = true
        · have hwk : walkD .range1 [.int j] = .items (rng 0 j.toNat) := by
            show (if lim62 j = true then Wk.items (rng 0 j.toNat) else .bad) = _
            rw [if_pos hl]
          rw [hwk] at q2
          exact ⟨j, rfl, (lim62_of hl).1, (lim62_of hl).2, q2.at W1 rw_rng⟩
        · have hwk : walkD .range1 [.int j] = .bad := by
            show (if lim62 j = true then Wk.items (rng 0 j.toNat) else .bad) = _
            rw [if_neg hl]
          rw [hwk] at hw
          cases hw
      | _ => exact absurd hw (by unfold walkD wkOk; exact Bool.false_ne_true)
    · have hwk : walkD .range1 (d :: d2 :: ds) = .bad := by cases d <;> rfl
      rw [hwk] at hw
      cases hw
  · exact q2.elim
theorem ei_range2 {tg ex ey : Expr} {e e' : E} {p pos : Pos} (hg : Gl X "range") (hm : X.mg "range" = none) (ha : PAd X bs (evA R b (.cons e (.cons e' .nil))) [ex, ey]) (hs : starEach [ex, ey] X.env = [(false, eval ex X.env), (false, eval ey X.env)]) (hs2 : starEach [ey] X.env = [(false, eval ey X.env)]) :
    PId X bs (evI R b .range2 (.cons e (.cons e' .nil))) tg (.Call (.Name "range" p) [ex, ey] [] pos) := by
  refine PI.by (pi_range2 hg hm ha hs hs2) ?_
  intro σ H Q hh
  obtain ⟨m, σd, st, W, r, q⟩ := hh
  refine ⟨m, σd, st, W, r, (Ok.bind (rel := RDL X.K) (g := fun ds st0 => toW .range2 ds st0) q).mono ?_⟩
  intro vs H1 h1
  obtain ⟨m1, st1, ds, s1, W1, r1, q2⟩ := h1
  unfold toW at q2
  split at q2
  · rename_i hw
    have key : ∃ i j, ds = [.int i, .int j] ∧ lim62 i = true ∧ lim62 j = true := by
      have bad : walkD .range2 ds = .bad → False := fun z => by rw [z] at hw; cases hw
      rcases ds with _ | ⟨d, _ | ⟨d2, _ | ⟨d3, ds⟩⟩⟩
      · exact (bad rfl).elim
      · exact (bad (by cases d <;> rfl)).elim
      · cases d with
        | int i =>
          cases d2 with
          | int j =>
            by_cases h : (lim62 i && lim62 j) = true
            · rw [Bool.and_eq_true] at h
              exact ⟨i, j, rfl, h.1, h.2⟩
            · refine (bad ?_).elim
              show (if (lim62 i && lim62 j) = true then Wk.items (rng i (j - i).toNat) else .bad) = _
              rw [if_neg h]
          | _ => exact (bad rfl).elim
        | _ => exact (bad rfl).elim
      · exact (bad (by cases d <;> cases d2 <;> rfl)).elim
    obtain ⟨i, j, rfl, hi, hj⟩ := key
    obtain ⟨v, w, rfl, rv, rw'⟩ := r1.twoV
    have ev' := rv.intV
    subst ev'
    have ew' := rw'.intV
    subst ew'
    have hwk : walkD .range2 [.int i, .int j] = .items (rng i (j - i).toNat) := by
      show (if (lim62 i && lim62 j) = true then Wk.items (rng i (j - i).toNat) else .bad) = _
      rw [if_pos (by rw [hi, hj]; rfl)]
    rw [hwk] at q2
    exact ⟨i, j, rfl, ⟨(lim62_of hi).1, (lim62_of hi).2, (lim62_of hj).1, (lim62_of hj).2⟩, q2.at W1 rw_rng⟩
  · exact q2.elim
end
end Mi
end
section
/-! Mi, part 14: comprehensions. -/
namespace Mi
open PySem PySem.Spec PyProof.Rows L2
section
variable {X : Cx} {bs : Bs} {R : Rt} {b : Nat}
theorem wipe_get (σ : L2.St) (i : Nat) : ∀ vs : List Nat, (wipe σ vs)[i]? = if i ∈ vs then (if i < σ.length then some none else none) else σ[i]?
  | [] => by
    unfold wipe
    rw [if_neg (by simp)]
  | v :: vs => by
    unfold wipe
    by_cases h : v = i
    · subst h
      rw [if_pos (List.mem_cons_self ..), List.getElem?_set, if_pos rfl, wipe_length]
    · rw [List.getElem?_set_ne h, wipe_get σ i vs]
      have hm : (i ∈ v :: vs) ↔ i ∈ vs := by
        rw [List.mem_cons]
        exact ⟨fun z => z.resolve_left fun e => h e.symm, .inr⟩
      by_cases h2 : i ∈ vs
      · rw [if_pos h2, if_pos (hm.mpr h2)]
      · rw [if_neg h2, if_neg fun z => h2 (hm.mp z)]
theorem Lk.wipe {is vs : List Nat} {σ σ' : L2.St} (h : Lk is (L2.wipe σ vs) σ') (hs : ∀ i ∈ is, i ∈ vs) : L2.wipe σ' vs = L2.wipe σ vs := by
  apply List.ext_getElem?
  intro i
  rw [wipe_get, wipe_get]
  have hl : σ'.length = σ.length := by rw [h.1, wipe_length]
  by_cases hi : i ∈ vs
  · rw [if_pos hi, if_pos hi, hl]
  · rw [if_neg hi, if_neg hi, h.2 i fun z => hi (hs i z), wipe_get, if_neg hi]
theorem wipeD_len (σ : Sg) : ∀ vs : List Nat, (wipeD σ vs).length = σ.length
  | [] => rfl
  | v :: vs => by unfold wipeD; rw [List.length_set, wipeD_len σ vs]
theorem RS.wipe {K : PySem.W.Frag} {m : Nat → Addr} {n : Nat} {H : Hp} {σd : Sg} {σ : L2.St} (r : RS K m n H σd σ) : ∀ vs : List Nat, RS K m n H (wipeD σd vs) (L2.wipe σ vs)
  | [] => r
  | v :: vs => by
    have ih := RS.wipe r vs
    unfold wipeD L2.wipe
    refine ⟨by rw [List.length_set, List.length_set]; exact ih.len, fun i d e => ?_⟩
    by_cases h : v = i
    · subst h
      rw [List.getElem?_set, if_pos rfl] at e
      split at e <;> cases e
    · rw [List.getElem?_set_ne h] at e
      obtain ⟨w, h1, h2⟩ := ih.get i d e
      exact ⟨w, by rw [List.getElem?_set_ne h]; exact h1, h2⟩
/-! ### the loop over what is fixed, by the index -/
theorem lcL_X {asg : D → Sg → Option Sg} {test : Sg → Store → Res Bool} {el : Sg → Store → Res D} {σ : Sg} {p : Nat} {xs : List D} : ∀ (j k : Nat) (st : Store), xs.length = k + j → lcL asg test el σ p (xs.drop k) st = lcX asg test el σ p (fun _ => some xs) (j + 1) k st
  | 0, k, st, h => by
    have h1 : xs.drop k = [] := List.drop_eq_nil_of_le (by omega)
    have h2 : xs[k]? = none := List.getElem?_eq_none (by omega)
    rw [h1]
    unfold lcX
    simp only [h2]
    unfold lcL
    rfl
  | j + 1, k, st, h => by
    have hk : k < xs.length := by omega
    have h1 : xs.drop k = xs[k] :: xs.drop (k + 1) := List.drop_eq_getElem_cons hk
    have h2 : xs[k]? = some xs[k] := List.getElem?_eq_getElem hk
    have ih : ∀ st, lcL asg test el σ p (xs.drop (k + 1)) st = lcX asg test el σ p (fun _ => some xs) (j + 1) (k + 1) st := fun st => lcL_X j (k + 1) st (by omega)
    rw [h1]
    unfold lcX
    simp only [h2]
    unfold lcL
    cases asg xs[k] σ with
    | none => rfl
    | some σ1 =>
      simp only
      cases test σ1 st with
      | bad => rfl
      | ok c st1 =>
        cases c with
        | false => exact ih st1
        | true =>
          simp only
          cases el σ1 st1 with
          | bad => rfl
          | ok y st2 =>
            simp only
            cases push st2 p y with
            | none => rfl
            | some st3 => exact ih st3
def nowOf (w : Wk) : Store → Option (List D) := wkNow w
/-- the loop by the index, whatever is walked -/
theorem lcW_X {asg : D → Sg → Option Sg} {test : Sg → Store → Res Bool} {el : Sg → Store → Res D} {σ : Sg} {p : Nat} {w : Wk} {st : Store} : lcW asg test el σ p w st = .bad ∨ ∃ fu, lcW asg test el σ p w st = lcX asg test el σ p (wkNow w) fu 0 st := by
  cases w with
  | items xs => exact .inr ⟨xs.length + 1, lcL_X xs.length 0 st (by omega)⟩
  | loc q => exact .inr ⟨_, rfl⟩
  | enumL q => exact .inr ⟨_, rfl⟩
  | bad => exact .inl rfl
theorem push_at {st st' : Store} {p : Nat} {y : D} (h : push st p y = some st') : ∃ ys, st[p]? = some (.lst ys) ∧ Nat.blt ys.length big = true ∧ st' = st.set p (.lst (ys ++ [y])) := by
  unfold push at h
  split at h
  · rename_i ys hs
    split at h
    · rename_i hl
      cases h
      exact ⟨ys, hs, hl, rfl⟩
    · cases h
  · cases h
theorem wr_self {st : Store} {p : Nat} {o : O} {ys : List D} (h : p < st.length) (hs : st[p]? = some (.lst ys)) : wr p st p o = some (st.set p o) := by
  have hn : notTab st p = true := by unfold notTab; rw [hs]
  unfold wr
  rw [if_pos (by rw [decide_eq_true h, decide_eq_true (Nat.le_refl p), hn]; rfl)]
abbrev rU : Rl Unit Unit := fun _ _ _ _ _ => True
/-- a turn, one thing after another -/
theorem lcX_step {asg : D → Sg → Option Sg} {test : Sg → Store → Res Bool} {el : Sg → Store → Res D} {σ σ1 : Sg} {p fu k : Nat} {now : Store → Option (List D)} {st : Store} {xs : List D} {x : D} (h1 : now st = some xs) (h2 : xs[k]? = some x) (h3 : asg x σ = some σ1) :
    lcX asg test el σ p now (fu + 1) k st = (test σ1 st).bind fun c st1 => match c with
      | false => lcX asg test el σ p now fu (k + 1) st1
      | true => (el σ1 st1).bind fun y st2 => (some_ (push st2 p y) st2).bind fun st3 _ => lcX asg test el σ p now fu (k + 1) st3 := by
  conv => lhs; unfold lcX
  simp only [h1, h2, h3]
  cases test σ1 st with
  | bad => rfl
  | ok c st1 =>
    cases c with
    | false => rfl
    | true =>
      show (match el σ1 st1 with
        | .bad => .bad
        | .ok y st2 => match push st2 p y with
          | some st3 => lcX asg test el σ p now fu (k + 1) st3
          | none => .bad) = (el σ1 st1).bind fun y st2 => (some_ (push st2 p y) st2).bind fun st3 _ => lcX asg test el σ p now fu (k + 1) st3
      cases el σ1 st1 with
      | bad => rfl
      | ok y st2 =>
        show (match push st2 p y with
          | some st3 => lcX asg test el σ p now fu (k + 1) st3
          | none => .bad) = (some_ (push st2 p y) st2).bind fun st3 _ => lcX asg test el σ p now fu (k + 1) st3
        cases push st2 p y with
        | none => rfl
        | some st3 => rfl
theorem lc_reads {ik : IK} {it ts e : E} {t : T} {vs : List Nat} {own : List (Str × Nat)} (hvs : own.map (·.2) = vs) (hsub : ∀ i ∈ tnm t, i ∈ vs) : ∀ σ H Q, tE X.K bs (ev R b (.lc ik it t ts e vs)) σ H Q →
    tLc (tX X.K bs (rW X.K bs) (evI R b ik it)) (tG X.K (asgT t) (tnm t)) (tT X.K bs (evT R b ts)) (tE X.K bs (ev R b e)) (own.map (·.2)) σ H Q := by
  intro σ H Q hh
  obtain ⟨m, σd, st, W, r, q⟩ := hh
  have q' : Ok X.K bs (RD X.K) m st.length H Q ((evI R b ik it σd st).bind fun w st1 => (lcW (asgT t) (fun σ st => evT R b ts σ st) (fun σ st => ev R b e σ st) (wipeD σd vs) st1.length w (st1 ++ [.lst []])).bind fun _ st2 => .ok (.loc st1.length) st2) := by unfold ev at q; exact q
  rw [hvs]
  refine ⟨m, σd, st, W, r, (q'.bind (rel := rW X.K bs)).mono ?_⟩
  intro J H1 h1 Dd hD
  obtain ⟨m1, st1, w, s1, W1, hw, q1⟩ := h1
  have r1 := r.step s1
  -- the new place
  have hl : (st1 ++ [O.lst []]).length = st1.length + 1 := by simp
  have SP : Stp m1 st1.length H1 (put m1 st1.length Dd) (st1 ++ [O.lst []]).length (upd H1 Dd (.lst [])) := by rw [hl]; exact Stp.put hD
  have WP : Wf X.K bs (put m1 st1.length Dd) (st1 ++ [O.lst []]) (upd H1 Dd (.lst [])) := W1.put hD ⟨[], upd_same, RDL.nil⟩
  have hb : ∀ c ∈ bs, c ≤ st1.length := W1.le
  rcases lcW_X (asg := asgT t) (test := fun σ st => evT R b ts σ st) (el := fun σ st => ev R b e σ st) (σ := wipeD σd vs) (p := st1.length) (w := w) (st := st1 ++ [.lst []]) with hx | ⟨fu0, hx⟩
  · rw [hx] at q1
    exact q1.elim
  rw [hx] at q1
  have q2 := (q1.step SP).bind (rel := rU)
  refine ⟨fun i fu H => ∃ m' st', Stp m1 st1.length H1 m' st'.length H ∧ st1.length < st'.length ∧ m' st1.length = Dd ∧ Wf X.K bs m' st' H ∧ Ok X.K bs rU m' st'.length H (fun _ H2 => ∃ m2 st2 a, Stp (put m1 st1.length Dd) (st1 ++ [O.lst []]).length (upd H1 Dd (.lst [])) m2 st2.length H2 ∧ Wf X.K bs m2 st2 H2 ∧ rU m2 st2.length H2 a () ∧ Ok X.K bs (RD X.K) m2 st2.length H2 Q (.ok (.loc st1.length) st2)) (lcX (asgT t) (fun σ st => evT R b ts σ st) (fun σ st => ev R b e σ st) (wipeD σd vs) st1.length (wkNow w) fu i st'), ⟨fu0, _, _, SP, by rw [hl]; exact Nat.lt_succ_self _, put_at, WP, q2⟩, ?_⟩
  rintro i fu H2 ⟨m2, st2, S2, hlt, hm2, W2, q3⟩
  cases fu with
  | zero => exact q3.elim
  | succ fu =>
    cases hn : wkNow w st2 with
    | none =>
      unfold lcX at q3
      simp only [hn] at q3
      exact q3.elim
    | some ys =>
      obtain ⟨hst, hgo⟩ := hw m2 st2 H2 ys S2 W2 hn i
      cases hy : ys[i]? with
      | none =>
        unfold lcX at q3
        simp only [hn, hy] at q3
        refine .inl ⟨hst hy, ?_⟩
        obtain ⟨m3, st3, _, S3, W3, _, q4⟩ := Ok.at (v := ()) q3 W2 trivial
        refine q4.at W3 ?_
        unfold RD
        have h3 : st1.length < (st1 ++ [O.lst []]).length := by rw [hl]; exact Nat.lt_succ_self _
        refine ⟨Nat.lt_of_lt_of_le h3 S3.le, ?_⟩
        rw [S3.eq _ h3, put_at]
      | some x =>
        obtain ⟨go, hyl⟩ := hgo x hy
        cases ha : asgT t x (wipeD σd vs) with
        | none =>
          unfold lcX at q3
          simp only [hn, hy, ha] at q3
          exact q3.elim
        | some σ1 =>
          rw [lcX_step hn hy ha] at q3
          refine .inr ⟨go, _, fun H' hN => ⟨fu, Nat.lt_succ_self _, hN⟩, ?_⟩
          intro xv H3 yl
          obtain ⟨S3, W3, rx⟩ := hyl xv H3 yl
          have r3 := (r1.step (S2.trans S3)).wipe vs
          refine ⟨m2, st2.length, wipeD σd vs, x, σ1, r3, rx, ha, fun σ' r' lk => ⟨lk.wipe hsub, m2, σ1, st2, W3, r', ((q3.step S3).bind (rel := rB)).mono ?_⟩⟩
          intro c H4 h4
          obtain ⟨m4, st4, c', S4, W4, hcc, q4⟩ := h4
          have hcc' : c = c' := hcc
          subst hcc'
          have hlt4 : st1.length < st4.length := Nat.lt_of_lt_of_le hlt S4.le
          have hm4 : m4 st1.length = Dd := (S4.eq _ hlt).trans hm2
          cases c with
          | false =>
            rw [if_neg Bool.false_ne_true]
            exact ⟨m4, st4, (S2.trans S3).trans S4, hlt4, hm4, W4, q4⟩
          | true =>
            rw [if_pos rfl]
            have q4' : Ok X.K bs rU m4 st4.length H4 _ ((ev R b e σ1 st4).bind fun y st2 => (some_ (push st2 st1.length y) st2).bind fun st3 _ => lcX (asgT t) (fun σ st => evT R b ts σ st) (fun σ st => ev R b e σ st) (wipeD σd vs) st1.length (wkNow w) fu (i + 1) st3) := q4
            refine ⟨m4, σ1, st4, W4, r'.step S4, (q4'.bind (rel := RD X.K)).mono ?_⟩
            intro y H5 h5
            obtain ⟨m5, st5, d5, S5, W5, r5, q5⟩ := h5
            obtain ⟨st6, hp, q6⟩ := q5.bindS
            obtain ⟨ys', hs5, hl5, rfl⟩ := push_at hp
            obtain ⟨acc, e5, ra⟩ := W5.ob _ _ hs5
            have hlt5 : st1.length < st5.length := Nat.lt_of_lt_of_le hlt4 S5.le
            have hm5 : m5 st1.length = Dd := (S5.eq _ hlt4).trans hm4
            obtain ⟨S6, W6⟩ := wr_ok (vs := acc ++ [y]) W5 hb (wr_self hlt5 hs5) fun _ => RDL.app ra (RDL.one r5)
            rw [hm5] at e5 S6 W6
            refine ⟨acc, e5, ?_, m5, _, ((((S2.trans S3).trans S4).trans S5)).trans S6, ?_, hm5, W6, ?_⟩
            · rw [← ra.len]
              exact lt_line hl5 rfl
            · rw [List.length_set]
              exact hlt5
            · exact Ok.step q6 S6
theorem ed_lc {tg iter elt : Expr} {ifs : List Expr} {scope : Scope} {own : List (Str × Nat)} {pos : Pos} {ik : IK} {it ts e : E} {t : T} {vs : List Nat} (hc : X.calm = true) (hN : X.N.Nodup) (hi : PId X bs (evI R b ik it) tg iter) (ok : BlkOk X.N X.env.scope scope own) (hvs : own.map (·.2) = vs) (hsub : ∀ i ∈ tnm t, i ∈ vs)
    (hg : ∀ (s : Shared) (H : Hp) (C : Addr) (cl : List (Str × Addr)) (fp : List Addr), PGd (X.blk s H scope (compEnvC scope cl C X.env) fp) t tg)
    (ht : ∀ (s : Shared) (H : Hp) (C : Addr) (cl : List (Str × Addr)) (fp : List Addr), PTs (X.blk s H scope (compEnvC scope cl C X.env) fp) ifs (tT X.K bs (evT R b ts)))
    (he : ∀ (s : Shared) (H : Hp) (C : Addr) (cl : List (Str × Addr)) (fp : List Addr), PEd (X.blk s H scope (compEnvC scope cl C X.env) fp) bs (ev R b e) elt) (hs : ∀ x, foldedSetIterable iter X.env x = pure x) :
    PEd X bs (ev R b (.lc ik it t ts e vs)) (.ListComp elt [⟨tg, iter, ifs, 0⟩] scope pos) := by
  exact PE.by (pe_lc (te := tE X.K bs (ev R b e)) (g := tG X.K (asgT t) (tnm t)) hc hN hi ok hg ht he hs) (lc_reads hvs hsub)
theorem ets_nil : PTs X [] (tT X.K bs (evT R b .nil)) := by
  refine ⟨fun pins s σ H Q I h => ?_⟩
  obtain ⟨m, σd, st, W, r, q⟩ := h
  have q' : Ok X.K bs rB m st.length H Q (.ok true st) := by unfold evT at q; exact q
  exact pts_nil.run pins s σ H Q I (q'.at W rfl)
theorem ets_one {c : E} {x : Expr} (h : PTd X bs (evT R b c) x) : PTs X [x] (tT X.K bs (evT R b (.cons c .nil))) := by
  have h1 := pts_one h
  refine ⟨fun pins s σ H Q I hh => h1.run pins s σ H Q I ?_⟩
  obtain ⟨m, σd, st, W, r, q⟩ := hh
  exact ⟨m, σd, st, W, r, by unfold evT at q; exact q⟩
end
end Mi
end
section
/-! Mi, part 15: statements. -/
namespace Mi
open PySem PySem.Spec PyProof.Rows L2
/-- how a statement ends -/
inductive Vl where
  | nx (σ : L2.St) | brk (σ : L2.St) | cont (σ : L2.St) | ret (v : V)
def rF (K : PySem.W.Frag) : Rl Fl Vl := fun m n H a v =>
  match a, v with
  | .nx σd, .nx σ => RS K m n H σd σ
  | .brk σd, .brk σ => RS K m n H σd σ
  | .cont σd, .cont σ => RS K m n H σd σ
  | .ret d, .ret v => RD K m n H d v
  | _, _ => False
def qD (D : Ends) : Vl → Hp → Prop := fun v H =>
  match v with
  | .nx σ => D.nx σ H
  | .brk σ => D.bk σ H
  | .cont σ => D.ct σ H
  | .ret v => D.rt v H
def tS (K : PySem.W.Frag) (bs : Bs) (f : Sg → Store → Res Fl) : TS := fun D σ H => tX K bs (rF K) f σ H (qD D)
section
variable {X : Cx} {bs : Bs} {R : Rt} {b fu : Nat}
abbrev PSd (X : Cx) (bs : Bs) (f : Sg → Store → Res Fl) (st : Stmt) : Prop := PS X st (tS X.K bs f)
abbrev PSsd (X : Cx) (bs : Bs) (f : Sg → Store → Res Fl) (st : List Stmt) : Prop := PSs X st (tS X.K bs f)
theorem es_nil : PSsd X bs (ex R fu b .skip) [] := by
  refine PSs.by pss_nil ?_
  intro D σ H h
  obtain ⟨m, σd, st, W, r, q⟩ := h
  have q' : Ok X.K bs (rF X.K) m st.length H (qD D) (.ok (.nx σd) st) := by unfold ex at q; exact q
  exact Ok.at (v := Vl.nx σ) q' W r
theorem es_pass {pos : Pos} : PSd X bs (ex R fu b .skip) (.Pass pos) := by
  refine PS.by ps_pass ?_
  intro D σ H h
  obtain ⟨m, σd, st, W, r, q⟩ := h
  have q' : Ok X.K bs (rF X.K) m st.length H (qD D) (.ok (.nx σd) st) := by unfold ex at q; exact q
  exact Ok.at (v := Vl.nx σ) q' W r
theorem es_doc {x : Str} {j : Nat} {pos pos' : Pos} : PSd X bs (ex R fu b .skip) (.Expr (.Constant (.str x) j pos) pos') := by
  refine PS.by ps_doc ?_
  intro D σ H h
  obtain ⟨m, σd, st, W, r, q⟩ := h
  have q' : Ok X.K bs (rF X.K) m st.length H (qD D) (.ok (.nx σd) st) := by unfold ex at q; exact q
  exact Ok.at (v := Vl.nx σ) q' W r
theorem es_brk {pos : Pos} : PSd X bs (ex R fu b .brk) (.Break pos) := by
  refine PS.by ps_break ?_
  intro D σ H h
  obtain ⟨m, σd, st, W, r, q⟩ := h
  have q' : Ok X.K bs (rF X.K) m st.length H (qD D) (.ok (.brk σd) st) := by unfold ex at q; exact q
  exact Ok.at (v := Vl.brk σ) q' W r
theorem es_cont {pos : Pos} : PSd X bs (ex R fu b .cont) (.Continue pos) := by
  refine PS.by ps_continue ?_
  intro D σ H h
  obtain ⟨m, σd, st, W, r, q⟩ := h
  have q' : Ok X.K bs (rF X.K) m st.length H (qD D) (.ok (.cont σd) st) := by unfold ex at q; exact q
  exact Ok.at (v := Vl.cont σ) q' W r
theorem es_retN {pos : Pos} : PSd X bs (ex R fu b .retN) (.Return none pos) := by
  refine PS.by ps_retN ?_
  intro D σ H h
  obtain ⟨m, σd, st, W, r, q⟩ := h
  have q' : Ok X.K bs (rF X.K) m st.length H (qD D) (.ok (.ret .non) st) := by unfold ex at q; exact q
  exact Ok.at (v := Vl.ret .non) q' W (by show RD X.K m st.length H .non .non; unfold RD; rfl)
theorem es_ret {e : E} {x : Expr} {pos : Pos} (he : PEd X bs (ev R b e) x) : PSd X bs (ex R fu b (.ret e)) (.Return (some x) pos) := by
  refine PS.by (ps_ret he) ?_
  intro D σ H h
  obtain ⟨m, σd, st, W, r, q⟩ := h
  have q' : Ok X.K bs (rF X.K) m st.length H (qD D) ((ev R b e σd st).bind fun d st1 => .ok (.ret d) st1) := by unfold ex at q; exact q
  refine ⟨m, σd, st, W, r, (q'.bind (rel := RD X.K)).mono ?_⟩
  intro v H1 h1
  obtain ⟨m1, st1, d, s1, W1, r1, q1⟩ := h1
  exact Ok.at (v := Vl.ret v) q1 W1 r1
theorem es_ex {e : E} {x : Expr} {pos : Pos} (he : PEd X bs (ev R b e) x) (hs : swapsWith x none pos.line X.env = pure false) : PSd X bs (ex R fu b (.ex e)) (.Expr x pos) := by
  refine PS.by (ps_expr he hs) ?_
  intro D σ H h
  obtain ⟨m, σd, st, W, r, q⟩ := h
  have q' : Ok X.K bs (rF X.K) m st.length H (qD D) ((ev R b e σd st).bind fun _ st1 => .ok (.nx σd) st1) := by unfold ex at q; exact q
  refine ⟨m, σd, st, W, r, (q'.bind (rel := RD X.K)).mono ?_⟩
  intro v H1 h1
  obtain ⟨m1, st1, d, s1, W1, r1, q1⟩ := h1
  exact Ok.at (v := Vl.nx σ) q1 W1 (r.step s1)
theorem es_cons {x y : S} {st : Stmt} {rest : List Stmt} (h1 : PSd X bs (ex R fu b x) st) (h2 : PSsd X bs (ex R fu b y) rest) : PSsd X bs (ex R fu b (.seq x y)) (st :: rest) := by
  refine PSs.by (pss_cons h1 h2) ?_
  intro D σ H h
  obtain ⟨m, σd, st, W, r, q⟩ := h
  have q' : Ok X.K bs (rF X.K) m st.length H (qD D) ((ex R fu b x σd st).bind fun f st1 => match f with
      | .nx σ1 => ex R fu b y σ1 st1
      | r => .ok r st1) := by unfold ex at q; exact q
  refine ⟨m, σd, st, W, r, (q'.bind (rel := rF X.K)).mono ?_⟩
  intro v H1 h1
  obtain ⟨m1, st1, a, s1, W1, r1, q1⟩ := h1
  cases a with
  | nx σ1 =>
    cases v with
    | nx σ' => exact ⟨m1, σ1, st1, W1, r1, q1⟩
    | _ => exact r1.elim
  | brk σ1 =>
    cases v with
    | brk σ' =>
      show qD D (Vl.brk σ') H1
      exact Ok.at (v := Vl.brk σ') (Q := qD D) q1 W1 r1
    | _ => exact r1.elim
  | cont σ1 =>
    cases v with
    | cont σ' =>
      show qD D (Vl.cont σ') H1
      exact Ok.at (v := Vl.cont σ') (Q := qD D) q1 W1 r1
    | _ => exact r1.elim
  | ret d =>
    cases v with
    | ret v =>
      show qD D (Vl.ret v) H1
      exact Ok.at (v := Vl.ret v) (Q := qD D) q1 W1 r1
    | _ => exact r1.elim
theorem es_if {c : E} {x y : S} {ec : Expr} {sa sb : List Stmt} {pos : Pos} (hc : PTd X bs (evT R b c) ec) (ha : PSsd X bs (ex R fu b x) sa) (hb : PSsd X bs (ex R fu b y) sb) : PSd X bs (ex R fu b (.ife c x y)) (.If ec sa sb pos) := by
  refine PS.by (ps_if hc ha hb) ?_
  intro D σ H h
  obtain ⟨m, σd, st, W, r, q⟩ := h
  have q' : Ok X.K bs (rF X.K) m st.length H (qD D) ((evT R b c σd st).bind fun c st1 => match c with
      | true => ex R fu b x σd st1
      | false => ex R fu b y σd st1) := by unfold ex at q; exact q
  refine ⟨m, σd, st, W, r, (q'.bind (rel := rB)).mono ?_⟩
  intro v H1 h1
  obtain ⟨m1, st1, d, s1, W1, r1, q1⟩ := h1
  have r1' : v = d := r1
  subst r1'
  cases v with
  | true =>
    rw [if_pos rfl]
    exact ⟨m1, σd, st1, W1, r.step s1, q1⟩
  | false =>
    rw [if_neg Bool.false_ne_true]
    exact ⟨m1, σd, st1, W1, r.step s1, q1⟩
/-- what an assignment is to reach -/
theorem asg_core {e : E} {t : T} {D : Ends} {σ : L2.St} {H : Hp} (h : tS X.K bs (ex R fu b (.asg t e)) D σ H) : tAsg (tE X.K bs (ev R b e)) (tG X.K (asgT t) (tnm t)) D σ H := by
  obtain ⟨m, σd, st, W, r, q⟩ := h
  have q' : Ok X.K bs (rF X.K) m st.length H (qD D) ((ev R b e σd st).bind fun d st1 => (some_ (asgT t d σd) st1).bind fun σ1 st2 => .ok (.nx σ1) st2) := by unfold ex at q; exact q
  refine ⟨m, σd, st, W, r, (q'.bind (rel := RD X.K)).mono ?_⟩
  intro v H1 h1
  obtain ⟨m1, st1, d, s1, W1, r1, q1⟩ := h1
  obtain ⟨σ1, e1, q2⟩ := q1.bindS
  exact ⟨m1, st1.length, σd, d, σ1, r.step s1, r1, e1, fun σ' r' _ => Ok.at (v := Vl.nx σ') q2 W1 r'⟩
theorem es_asg {e : E} {t : T} {x tg : Expr} {pos : Pos} (he : PEd X bs (ev R b e) x) (hg : PGd X t tg) (hs : swapsWithSole [tg] x pos.line X.env = pure false) (hw : swappedStores [tg] x X.env = pure none) (h1 : (assignEach [tg] X.env).map (·.2) = [assign tg X.env]) :
    PSd X bs (ex R fu b (.asg t e)) (.Assign [tg] x pos) := PS.by (ps_asg he hg hs hw h1) fun _ _ _ h => asg_core h
/-- name = a comprehension in one row -/
theorem es_asgC {i : Nat} {y : Str} {py : Pos} {elt tg iter : Expr} {ifs : List Expr} {scope : Scope} {own : List (Str × Nat)} {pos spos : Pos} {ik : IK} {it ts el : E} {t : T} {vs : List Nat} (hc : X.calm = true) (hN : X.N.Nodup) (hy : X.N[i]? = some y) (hyl : X.env.scope.names.lookup y = some .local)
    (hsw : swapsWith (.ListComp elt [⟨tg, iter, ifs, 0⟩] scope pos) (some (.Name y py)) spos.line X.env = pure true)
    (hi : PId X bs (evI R b ik it) tg iter) (ok : BlkOk X.N X.env.scope scope own) (hvs : own.map (·.2) = vs) (hsub : ∀ i ∈ tnm t, i ∈ vs)
    (hg : ∀ (s : Shared) (H : Hp) (C : Addr) (cl : List (Str × Addr)) (fp : List Addr), PGd (X.blk s H scope (compEnvC scope cl C X.env) fp) t tg)
    (ht : ∀ (s : Shared) (H : Hp) (C : Addr) (cl : List (Str × Addr)) (fp : List Addr), PTs (X.blk s H scope (compEnvC scope cl C X.env) fp) ifs (tT X.K bs (evT R b ts)))
    (he : ∀ (s : Shared) (H : Hp) (C : Addr) (cl : List (Str × Addr)) (fp : List Addr), PEd (X.blk s H scope (compEnvC scope cl C X.env) fp) bs (ev R b el) elt) (hs : ∀ x, foldedSetIterable iter X.env x = pure x) :
    PSd X bs (ex R fu b (.asgc i ik it t ts el vs)) (.Assign [.Name y py] (.ListComp elt [⟨tg, iter, ifs, 0⟩] scope pos) spos) := by
  refine PS.by (ps_setLc (te := tE X.K bs (ev R b el)) (g := tG X.K (asgT t) (tnm t)) hc hN hy hyl hsw hi ok hg ht he hs) ?_
  intro D σ H h
  refine lc_reads hvs hsub _ _ _ ?_
  obtain ⟨m, σd, st, W, r, q⟩ := h
  have q' : Ok X.K bs (rF X.K) m st.length H (qD D) ((ev R b (.lc ik it t ts el vs) σd st).bind fun d st1 => .ok (.nx (σd.set i (some d))) st1) := by unfold ex at q; exact q
  refine ⟨m, σd, st, W, r, (q'.bind (rel := RD X.K)).mono ?_⟩
  intro v H1 h1
  obtain ⟨m1, st1, d, s1, W1, r1, q1⟩ := h1
  exact Ok.at (v := Vl.nx (σ.set i (some v))) (Q := qD D) q1 W1 ((r.step s1).set i r1)
theorem es_par2 {es : E} {i j : Nat} {x y : Str} {ea eb : Expr} {px py pt pos : Pos} {kt k2 : Nat} {pt2 : Pos} (hc : X.calm = true) (hN : X.N.Nodup) (hi : X.N[i]? = some x) (hj : X.N[j]? = some y) (hij : i ≠ j)
    (hx : X.env.scope.names.lookup x = some .local) (hy : X.env.scope.names.lookup y = some .local) (ha : PAd X bs (evA R b es) [ea, eb])
    (hw : swappedStores [.Tuple [.Name x px, .Name y py] kt pt] (.Tuple [ea, eb] k2 pt2) X.env = pure (some [x, y]))
    (hs : swapsWithSole [.Tuple [.Name x px, .Name y py] kt pt] (.Tuple [ea, eb] k2 pt2) pos.line X.env = pure false) :
    PSd X bs (ex R fu b (.par [i, j] es)) (.Assign [.Tuple [.Name x px, .Name y py] kt pt] (.Tuple [ea, eb] k2 pt2) pos) := by
  refine PS.by (ps_par hc hN hi hj hij hx hy ha hw hs) ?_
  intro D σ H h
  obtain ⟨m, σd, st, W, r, q⟩ := h
  have q' : Ok X.K bs (rF X.K) m st.length H (qD D) ((evA R b es σd st).bind fun ds st1 => (some_ (setAll [i, j] ds σd) st1).bind fun σ1 st2 => .ok (.nx σ1) st2) := by unfold ex at q; exact q
  refine ⟨m, σd, st, W, r, (q'.bind (rel := RDL X.K)).mono ?_⟩
  intro vs H1 h1
  obtain ⟨m1, st1, ds, s1, W1, r1, q1⟩ := h1
  obtain ⟨σ1, e1, q2⟩ := q1.bindS
  rcases ds with _ | ⟨d1, _ | ⟨d2, _ | ⟨d3, ds⟩⟩⟩
  · cases e1
  · cases e1
  · obtain ⟨v, w, rfl, rv, rw'⟩ := r1.twoV
    cases e1
    exact ⟨v, w, rfl, Ok.at (v := Vl.nx _) q2 W1 (((r.step s1).set i rv).set j rw')⟩
  · cases e1
theorem RDL.threeV {K : PySem.W.Frag} {m : Nat → Addr} {n : Nat} {H : Hp} {d d' d'' : D} {vs : List V} (h : RDL K m n H [d, d', d''] vs) : ∃ v w u, vs = [v, w, u] ∧ RD K m n H d v ∧ RD K m n H d' w ∧ RD K m n H d'' u := by
  unfold RDL at h
  obtain ⟨v, r, e, h1, h2⟩ := h
  obtain ⟨w, u, e2, h3, h4⟩ := h2.twoV
  exact ⟨v, w, u, by rw [e, e2], h1, h3, h4⟩
theorem es_par3 {es : E} {i j l : Nat} {x y z : Str} {ea eb ec : Expr} {px py pz pt pos : Pos} {kt k2 : Nat} {pt2 : Pos} (hc : X.calm = true) (hN : X.N.Nodup) (hi : X.N[i]? = some x) (hj : X.N[j]? = some y) (hl : X.N[l]? = some z) (hij : i ≠ j) (hil : i ≠ l) (hjl : j ≠ l)
    (hx : X.env.scope.names.lookup x = some .local) (hy : X.env.scope.names.lookup y = some .local) (hz : X.env.scope.names.lookup z = some .local) (ha : PAd X bs (evA R b es) [ea, eb, ec])
    (hw : swappedStores [.Tuple [.Name x px, .Name y py, .Name z pz] kt pt] (.Tuple [ea, eb, ec] k2 pt2) X.env = pure (some [x, y, z]))
    (hs : swapsWithSole [.Tuple [.Name x px, .Name y py, .Name z pz] kt pt] (.Tuple [ea, eb, ec] k2 pt2) pos.line X.env = pure false) :
    PSd X bs (ex R fu b (.par [i, j, l] es)) (.Assign [.Tuple [.Name x px, .Name y py, .Name z pz] kt pt] (.Tuple [ea, eb, ec] k2 pt2) pos) := by
  refine PS.by (ps_par3 hc hN hi hj hl hij hil hjl hx hy hz ha hw hs) ?_
  intro D σ H h
  obtain ⟨m, σd, st, W, r, q⟩ := h
  have q' : Ok X.K bs (rF X.K) m st.length H (qD D) ((evA R b es σd st).bind fun ds st1 => (some_ (setAll [i, j, l] ds σd) st1).bind fun σ1 st2 => .ok (.nx σ1) st2) := by unfold ex at q; exact q
  refine ⟨m, σd, st, W, r, (q'.bind (rel := RDL X.K)).mono ?_⟩
  intro vs H1 h1
  obtain ⟨m1, st1, ds, s1, W1, r1, q1⟩ := h1
  obtain ⟨σ1, e1, q2⟩ := q1.bindS
  rcases ds with _ | ⟨d1, _ | ⟨d2, _ | ⟨d3, _ | ⟨d4, ds⟩⟩⟩⟩
  · cases e1
  · cases e1
  · cases e1
  · obtain ⟨v, w, u, rfl, rv, rw', ru⟩ := r1.threeV
    cases e1
    exact ⟨v, w, u, rfl, Ok.at (v := Vl.nx _) q2 W1 ((((r.step s1).set i rv).set j rw').set l ru)⟩
  · cases e1
theorem iop_aug {op : Operator} : PIp X op (fun x y H Q => ∃ (m : Nat → Addr) (n : Nat) (d1 d2 d : D), Rn X.K m n H d1 x ∧ Rn X.K m n H d2 y ∧ augD op d1 d2 = some d ∧ ∀ v, RD X.K m n H d v → Q v H) := by
  intro pins s σ H x y v u Q I rx ry h
  obtain ⟨m, n, d1, d2, d, h1, h2, e, q⟩ := h
  unfold augD at e
  split at e
  · rename_i p q'
    have e1 := h1.int
    subst e1
    have e2 := h2.int
    subst e2
    split at e
    · cases e
      exact iop_add pins s σ H _ _ v u Q I rx ry ⟨p, q', rfl, rfl, q _ (by unfold RD; rfl)⟩
    · cases e
      exact iop_sub pins s σ H _ _ v u Q I rx ry ⟨p, q', rfl, rfl, q _ (by unfold RD; rfl)⟩
    · split at e
      · rename_i hz
        rw [Bool.and_eq_true] at hz
        cases e
        exact iop_fdiv pins s σ H _ _ v u Q I rx ry ⟨p, q', rfl, rfl, ⟨of_decide_eq_true hz.1, of_decide_eq_true hz.2⟩, q _ (by unfold RD; rfl)⟩
      · cases e
    · cases e
  · rename_i p q'
    have e1 := h1.str
    subst e1
    have e2 := h2.str
    subst e2
    split at e
    · split at e
      · rename_i hz
        cases e
        exact iop_add_str pins s σ H _ _ v u Q I rx ry ⟨p, q', rfl, rfl, le_line hz rfl, q _ (by unfold RD; rfl)⟩
      · cases e
    · cases e
  · cases e
theorem es_aug {i : Nat} {x : Str} {e : E} {op : Operator} {ee : Expr} {pos' pos : Pos} (hN : X.N.Nodup) (hi : X.N[i]? = some x) (hx : Loc X.env.scope x) (he : PEd X bs (ev R b e) ee) (hf : X.fn x = true ∨ X.env.scope.names.lookup x = some .local) :
    PSd X bs (ex R fu b (.aug i op e)) (.AugAssign (.Name x pos') op ee pos) := by
  refine PS.by (ps_aug hN hi hx he iop_aug hf) ?_
  intro D σ H h
  obtain ⟨m, σd, st, W, r, q⟩ := h
  have q' : Ok X.K bs (rF X.K) m st.length H (qD D) ((some_ (getS σd i) st).bind fun x st0 => (ev R b e σd st0).bind fun y st1 => (some_ (augD op x y) st1).bind fun d st2 => .ok (.nx (σd.set i (some d))) st2) := by unfold ex at q; exact q
  obtain ⟨x0, e0, q1⟩ := q'.bindS
  obtain ⟨v0, hv0, r0⟩ := r.at e0
  refine ⟨v0, hv0, m, σd, st, W, r, (q1.bind (rel := RD X.K)).mono ?_⟩
  intro y H1 h1
  obtain ⟨m1, st1, d, s1, W1, r1, q2⟩ := h1
  obtain ⟨z, ez, q3⟩ := q2.bindS
  have key : ∀ (d : Mi.D) (v : V), augD op x0 d ≠ none → RD X.K m1 st1.length H1 d v → Rn X.K m1 st1.length H1 d v := by
    intro d v hn rd
    cases d with
    | int _ => exact rd
    | str _ => exact rd
    | _ => exact absurd (by unfold augD; cases x0 <;> rfl) hn
  have key2 : ∀ (v : V), RD X.K m1 st1.length H1 x0 v → Rn X.K m1 st1.length H1 x0 v := by
    intro v rd
    cases x0 with
    | int _ => exact rd
    | str _ => exact rd
    | _ => exact absurd ez (by unfold augD; exact fun z => by cases z)
  refine ⟨m1, st1.length, x0, d, z, key2 _ (r0.step s1 _ _), key d y (by rw [ez]; exact fun z => by cases z) r1, ez, fun w rw' => ?_⟩
  exact Ok.at (v := Vl.nx (σ.set i (some w))) q3 W1 ((r.step s1).set i rw')
/-! ### o[i] = v -/
theorem PSet.or {t u : TSet} (h : PSet X t) (h' : PSet X u) : PSet X (fun o i v H Q => t o i v H Q ∨ u o i v H Q) := by
  intro pins s σ H o i v ov iv w Q I ro ri rv q
  rcases q with q | q
  · exact h pins s σ H o i v ov iv w Q I ro ri rv q
  · exact h' pins s σ H o i v ov iv w Q I ro ri rv q
theorem es_six {N : List Str} {sc os : Scope} {k : Nat} (F : XF X N sc os k) (hb : ∀ c ∈ bs, c ≤ b) {o i e : E} {eo ei ee : Expr} {tpos pos : Pos} (ho : PEd X bs (ev R b o) eo) (hi : PEd X bs (ev R b i) ei) (he : PEd X bs (ev R b e) ee)
    (hs : swapsWithSole [.Subscript eo ei tpos] ee pos.line X.env = pure false) (hw : swappedStores [.Subscript eo ei tpos] ee X.env = pure none)
    (ha : ∀ v, assign (.Subscript eo ei tpos) X.env v = (do
      let ov ← holding [v] (eval eo X.env)
      let iv ← holding [v, ov] (eval ei X.env)
      standAt tpos
      holding [v, ov, iv] (setItem ov iv v)
      release [v, ov, iv] [])) :
    PSd X bs (ex R fu b (.six o i e)) (.Assign [.Subscript eo ei tpos] ee pos) := by
  refine PS.by (ps_asg he (pg_sub ho hi (PSet.or set_list (set_dict (by have := F.un; omega))) ha) hs hw rfl) ?_
  intro D σ H h
  obtain ⟨m, σd, st, W, r, q⟩ := h
  have q' : Ok X.K bs (rF X.K) m st.length H (qD D) ((ev R b e σd st).bind fun v st1 => (ev R b o σd st1).bind fun d st2 => (ev R b i σd st2).bind fun k st3 => match setD b st3 d k v with
      | some st4 => .ok (.nx σd) st4
      | none => .bad) := by unfold ex at q; exact q
  refine ⟨m, σd, st, W, r, (q'.bind (rel := RD X.K)).mono ?_⟩
  intro v H1 h1
  obtain ⟨m1, st1, dv, s1, W1, r1, q1⟩ := h1
  refine ⟨m1, σd, st1, W1, r.step s1, (q1.bind (rel := RD X.K)).mono ?_⟩
  intro ov H2 h2
  obtain ⟨m2, st2, dob, s2, W2, r2, q2⟩ := h2
  refine ⟨m2, σd, st2, W2, (r.step s1).step s2, (q2.bind (rel := RD X.K)).mono ?_⟩
  intro iv H3 h3
  obtain ⟨m3, st3, di, s3, W3, r3, q3⟩ := h3
  have rv := (r1.step s2 _ _).step s3 _ _
  have ro := r2.step s3 _ _
  have rs := ((r.step s1).step s2).step s3
  split at q3
  · rename_i st4 hset
    unfold setD at hset
    split at hset
    · rename_i p
      obtain ⟨hp, rfl⟩ := ro.place
      split at hset
      · rename_i xs hx
        obtain ⟨ws, e1, e2⟩ := W3.ob p _ hx
        split at hset
        · rename_i kk
          have ei' := r3.intV
          subst ei'
          split at hset
          · rename_i j hj
            obtain ⟨S4, W4⟩ := wr_ok (vs := ws.set j v) W3 hb hset fun _ => e2.setA j rv
            rw [e2.len] at hj
            refine .inl ⟨m3 p, ws, kk, j, rfl, rfl, e1, hj, ?_⟩
            exact q3 m3 _ (Vl.nx σ) S4 W4 (rs.step S4)
          · cases hset
        · cases hset
      · rename_i ks xs hx
        obtain ⟨kk, ws, e1, e2, e3, e4⟩ := W3.ob p _ hx
        split at hset
        · rename_i kx hk
          have ek := keyOf_some hk
          subst ek
          have eiv : iv = kV kx := by
            cases kx with
            | inl z => exact r3.intV
            | inr z => exact r3.strV
          subst eiv
          have hlen : (kk.zip ws).length = kk.length := by rw [List.length_zip]; omega
          subst e3
          have hany := zip_any kx kk ws e2
          split at hset
          · rename_i hz
            have hz' : kk.length < sizeLine := by
              rw [List.length_map] at hz
              exact lt_line hz rfl
            split at hset
            · rename_i hh
              rw [hasK_any] at hh
              have hput : putK (kk.zip ws) kx v = kk.zip (putA (fun a => decide (a = kx)) v kk ws) := by
                unfold putK
                rw [hany, if_pos hh, put_zip kx v kk ws e2]
              have hr := RDL.putK kx rv kk xs ws e4
              have hi' : p < st3.length := hp
              have S4 := Stp.wr (u := .dK (kk.zip (putA (fun a => decide (a = kx)) v kk ws))) hi' (W3.ne hi')
              obtain ⟨hl4, _, W4⟩ := W3.wr hb hset ⟨kk, _, upd_same, by rw [putA_len]; exact e2, rfl, hr.step S4 _ _⟩
              have S4' : Stp m3 st3.length H3 m3 st4.length (upd H3 (m3 p) (.dK (kk.zip (putA (fun a => decide (a = kx)) v kk ws)))) := by rw [hl4]; exact S4
              refine .inr ⟨m3 p, _, rfl, DPut.k e1 ?_, ?_⟩
              · rw [hlen]
                exact hz'
              · rw [hput]
                exact q3 m3 _ (Vl.nx σ) S4' W4 (rs.step S4')
            · rename_i hh
              · rw [hasK_any] at hh
                have hput : putK (kk.zip ws) kx v = (kk ++ [kx]).zip (ws ++ [v]) := by
                  unfold putK
                  rw [hany, if_neg hh, List.zip_append e2]
                  rfl
                have hi' : p < st3.length := hp
                have S4 := Stp.wr (u := .dK ((kk ++ [kx]).zip (ws ++ [v]))) hi' (W3.ne hi')
                obtain ⟨hl4, _, W4⟩ := W3.wr hb hset ⟨kk ++ [kx], _, upd_same, by rw [List.length_append, List.length_append, e2]; rfl, by rw [List.map_append]; rfl, (RDL.app e4 (RDL.one rv)).step S4 _ _⟩
                have S4' : Stp m3 st3.length H3 m3 st4.length (upd H3 (m3 p) (.dK ((kk ++ [kx]).zip (ws ++ [v])))) := by rw [hl4]; exact S4
                refine .inr ⟨m3 p, _, rfl, DPut.k e1 ?_, ?_⟩
                · rw [hlen]
                  exact hz'
                · rw [hput]
                  exact q3 m3 _ (Vl.nx σ) S4' W4 (rs.step S4')
          · cases hset
        · cases hset
      · cases hset
    · cases hset
  · exact q3.elim
end
end Mi
end
section
/-! Mi, part 16: loops. -/
namespace Mi
open PySem PySem.Spec PyProof.Rows L2
theorem forL_X {asg : D → Sg → Option Sg} {body : Sg → Store → Res Fl} {xs : List D} : ∀ (j k : Nat) (σ : Sg) (st : Store), xs.length = k + j → forL asg body (xs.drop k) σ st = forX asg body (fun _ => some xs) (j + 1) k σ st
  | 0, k, σ, st, h => by
    have h1 : xs.drop k = [] := List.drop_eq_nil_of_le (by omega)
    have h2 : xs[k]? = none := List.getElem?_eq_none (by omega)
    rw [h1]
    unfold forX
    simp only [h2]
    unfold forL
    rfl
  | j + 1, k, σ, st, h => by
    have hk : k < xs.length := by omega
    have h1 : xs.drop k = xs[k] :: xs.drop (k + 1) := List.drop_eq_getElem_cons hk
    have h2 : xs[k]? = some xs[k] := List.getElem?_eq_getElem hk
    have ih : ∀ σ st, forL asg body (xs.drop (k + 1)) σ st = forX asg body (fun _ => some xs) (j + 1) (k + 1) σ st := fun σ st => forL_X j (k + 1) σ st (by omega)
    rw [h1]
    unfold forX
    simp only [h2]
    unfold forL
    cases asg xs[k] σ with
    | none => rfl
    | some σ1 =>
      simp only
      cases body σ1 st with
      | bad => rfl
      | ok f st1 =>
        cases f with
        | nx σ2 => exact ih σ2 st1
        | cont σ2 => exact ih σ2 st1
        | brk σ2 => rfl
        | ret d => rfl
theorem forW_X {asg : D → Sg → Option Sg} {body : Sg → Store → Res Fl} {w : Wk} {σ : Sg} {st : Store} : forW asg body w σ st = .bad ∨ ∃ fu, forW asg body w σ st = forX asg body (wkNow w) fu 0 σ st := by
  cases w with
  | items xs => exact .inr ⟨xs.length + 1, forL_X xs.length 0 σ st (by omega)⟩
  | loc q => exact .inr ⟨_, rfl⟩
  | enumL q => exact .inr ⟨_, rfl⟩
  | bad => exact .inl rfl
/-- behind a turn's body -/
def nextF (go : Sg → Store → Res Fl) (f : Fl) (st : Store) : Res Fl :=
  match f with
  | .nx σ => go σ st
  | .cont σ => go σ st
  | .brk σ => .ok (.nx σ) st
  | .ret d => .ok (.ret d) st
theorem forX_step {asg : D → Sg → Option Sg} {body : Sg → Store → Res Fl} {σ σ1 : Sg} {fu k : Nat} {now : Store → Option (List D)} {st : Store} {xs : List D} {x : D} (h1 : now st = some xs) (h2 : xs[k]? = some x) (h3 : asg x σ = some σ1) :
    forX asg body now (fu + 1) k σ st = (body σ1 st).bind (nextF fun σ2 st2 => forX asg body now fu (k + 1) σ2 st2) := by
  conv => lhs; unfold forX
  simp only [h1, h2, h3]
  cases body σ1 st with
  | bad => rfl
  | ok f st1 => cases f <;> rfl
theorem whileF_step {c : Sg → Store → Res Bool} {body : Sg → Store → Res Fl} {fu : Nat} {σ : Sg} {st : Store} :
    whileF c body (fu + 1) σ st = (c σ st).bind fun d st1 => match d with
      | false => .ok (.nx σ) st1
      | true => (body σ st1).bind (nextF fun σ2 st2 => whileF c body fu σ2 st2) := by
  conv => lhs; unfold whileF
  cases c σ st with
  | bad => rfl
  | ok d st1 =>
    cases d with
    | false => rfl
    | true =>
      show (match body σ st1 with
        | .ok (.nx σ2) st2 => whileF c body fu σ2 st2
        | .ok (.cont σ2) st2 => whileF c body fu σ2 st2
        | .ok (.brk σ2) st2 => .ok (.nx σ2) st2
        | .ok (.ret d) st2 => .ok (.ret d) st2
        | .bad => .bad) = (body σ st1).bind (nextF fun σ2 st2 => whileF c body fu σ2 st2)
      cases body σ st1 with
      | bad => rfl
      | ok f st2 => cases f <;> rfl
section
variable {X : Cx} {bs : Bs} {R : Rt} {b fu : Nat}
/-- the ends of a loop's body -/
theorem next_ok {K : PySem.W.Frag} {D : Ends} {N : L2.St → Hp → Prop} {go : Sg → Store → Res Fl} {m : Nat → Addr} {n : Nat} {H : Hp} {r : Res Fl} (q : Ok K bs (rF K) m n H (qD D) (r.bind (nextF go)))
    (hN : ∀ m1 st1 σ1 σ' H1, Stp m n H m1 st1.length H1 → Wf K bs m1 st1 H1 → RS K m1 st1.length H1 σ1 σ' → Ok K bs (rF K) m1 st1.length H1 (qD D) (go σ1 st1) → N σ' H1) :
    Ok K bs (rF K) m n H (qD { D with nx := N, ct := N, bk := D.nx }) r := by
  refine (q.bind (rel := rF K)).mono ?_
  intro v H1 h1
  obtain ⟨m1, st1, a, s1, W1, r1, q1⟩ := h1
  cases a with
  | nx σ1 =>
    cases v with
    | nx σ' => exact hN m1 st1 σ1 σ' H1 s1 W1 r1 q1
    | _ => exact r1.elim
  | cont σ1 =>
    cases v with
    | cont σ' => exact hN m1 st1 σ1 σ' H1 s1 W1 r1 q1
    | _ => exact r1.elim
  | brk σ1 =>
    cases v with
    | brk σ' =>
      show qD D (Vl.nx σ') H1
      exact Ok.at (v := Vl.nx σ') (Q := qD D) q1 W1 r1
    | _ => exact r1.elim
  | ret d =>
    cases v with
    | ret v =>
      show qD D (Vl.ret v) H1
      exact Ok.at (v := Vl.ret v) (Q := qD D) q1 W1 r1
    | _ => exact r1.elim
theorem es_for {ik : IK} {it : E} {t : T} {s : S} {tg iter : Expr} {body : List Stmt} {pos : Pos} (hp : PassesOwn (model X.prog X.w) X.A X.env X.xe) (hc : X.calm = true) (hi : PId X bs (evI R b ik it) tg iter) (hg : PGd X t tg) (hb : PSsd X bs (ex R fu b s) body)
    (hs : ∀ x, foldedSetIterable iter X.env x = pure x) : PSd X bs (ex R fu b (.for_ ik it t s)) (.For tg iter body [] pos) := by
  refine PS.by (ps_for hp hc hi hg hb hs) ?_
  intro D σ H h
  obtain ⟨m, σd, st, W, r, q⟩ := h
  have q' : Ok X.K bs (rF X.K) m st.length H (qD D) ((evI R b ik it σd st).bind fun w st1 => forW (asgT t) (fun σ st => ex R fu b s σ st) w σd st1) := by unfold ex at q; exact q
  refine ⟨m, σd, st, W, r, (q'.bind (rel := rW X.K bs)).mono ?_⟩
  intro J H1 h1
  obtain ⟨m1, st1, w, s1, W1, hw, q1⟩ := h1
  rcases forW_X (asg := asgT t) (body := fun σ st => ex R fu b s σ st) (σ := σd) (w := w) (st := st1) with hx | ⟨fu0, hx⟩
  · rw [hx] at q1
    exact q1.elim
  rw [hx] at q1
  refine ⟨fun i k σ H => ∃ m' st' σd', Stp m1 st1.length H1 m' st'.length H ∧ Wf X.K bs m' st' H ∧ RS X.K m' st'.length H σd' σ ∧ Ok X.K bs (rF X.K) m' st'.length H (qD D) (forX (asgT t) (fun σ st => ex R fu b s σ st) (wkNow w) k i σd' st'), ⟨fu0, m1, st1, σd, Stp.refl, W1, r.step s1, q1⟩, ?_⟩
  rintro i k σ2 H2 ⟨m2, st2, σd2, S2, W2, r2, q3⟩
  cases k with
  | zero => exact q3.elim
  | succ k =>
    cases hn : wkNow w st2 with
    | none =>
      unfold forX at q3
      simp only [hn] at q3
      exact q3.elim
    | some ys =>
      obtain ⟨hst, hgo⟩ := hw m2 st2 H2 ys S2 W2 hn i
      cases hy : ys[i]? with
      | none =>
        unfold forX at q3
        simp only [hn, hy] at q3
        exact .inl ⟨hst hy, Ok.at (v := Vl.nx σ2) (Q := qD D) q3 W2 r2⟩
      | some x =>
        obtain ⟨go, hyl⟩ := hgo x hy
        cases ha : asgT t x σd2 with
        | none =>
          unfold forX at q3
          simp only [hn, hy, ha] at q3
          exact q3.elim
        | some σ1 =>
          rw [forX_step hn hy ha] at q3
          refine .inr ⟨go, _, fun σ' H' hN => ⟨k, Nat.lt_succ_self _, hN⟩, ?_⟩
          intro xv H3 yl
          obtain ⟨S3, W3, rx⟩ := hyl xv H3 yl
          refine ⟨m2, st2.length, σd2, x, σ1, r2.step S3, rx, ha, fun σ' r' _ => ⟨m2, σ1, st2, W3, r', next_ok (q3.step S3) ?_⟩⟩
          intro m4 st4 σ4 σ4' H4 S4 W4 r4 q4
          exact ⟨m4, st4, σ4, (S2.trans S3).trans S4, W4, r4, q4⟩
theorem es_while {c : E} {s : S} {ec : Expr} {body : List Stmt} {pos : Pos} (hp : PassesOwn (model X.prog X.w) X.A X.env X.xe) (hc : PTd X bs (evT R b c) ec) (hb : PSsd X bs (ex R fu b s) body) : PSd X bs (ex R fu b (.whil c s)) (.While ec body [] pos) := by
  refine PS.by (ps_while hp hc hb) ?_
  intro D σ H h
  obtain ⟨m, σd, st, W, r, q⟩ := h
  have q' : Ok X.K bs (rF X.K) m st.length H (qD D) (whileF (fun σ st => evT R b c σ st) (fun σ st => ex R fu b s σ st) fu σd st) := by unfold ex at q; exact q
  refine ⟨fun k σ H => ∃ m' st' σd', Wf X.K bs m' st' H ∧ RS X.K m' st'.length H σd' σ ∧ Ok X.K bs (rF X.K) m' st'.length H (qD D) (whileF (fun σ st => evT R b c σ st) (fun σ st => ex R fu b s σ st) k σd' st'), ⟨fu, m, st, σd, W, r, q'⟩, ?_⟩
  rintro k σ2 H2 ⟨m2, st2, σd2, W2, r2, q3⟩
  cases k with
  | zero => exact q3.elim
  | succ k =>
    rw [whileF_step] at q3
    refine ⟨m2, σd2, st2, W2, r2, (q3.bind (rel := rB)).mono ?_⟩
    intro v H3 h3
    obtain ⟨m3, st3, d, s3, W3, r3, q4⟩ := h3
    have r3' : v = d := r3
    subst r3'
    cases v with
    | false =>
      rw [if_neg Bool.false_ne_true]
      exact Ok.at (v := Vl.nx σ2) (Q := qD D) q4 W3 (r2.step s3)
    | true =>
      rw [if_pos rfl]
      refine ⟨_, fun σ' H' hN => ⟨k, Nat.lt_succ_self _, hN⟩, m3, σd2, st3, W3, r2.step s3, next_ok q4 ?_⟩
      intro m4 st4 σ4 σ4' H4 S4 W4 r4 q5
      exact ⟨m4, st4, σ4, W4, r4, q5⟩
end
end Mi
end
section
/-! Mi, part 29: a dict merged into another one, as displays with ** do. -/
namespace Mi
open PySem PySem.Spec PyProof.Rows L2
section
variable {prog : Program} {w : World} {K : Type} [DecidableEq K] {knd : KeyKind prog w K} {A : Around} {E : Value → Shared → Prop} {s : Shared}
theorem dput_ok {d : Addr} {kvs : List (K × Value)} {k : K} {key v : Value} {Q : Unit → Shared → Prop} (hkey : knd.is k key = true) (hm : s.heap.DictOf knd d kvs) (hsz : kvs.length ≤ sizeLine)
    (hQ : ∀ h', h'.DictOf knd d (stored kvs k v) → Heap.SameBut d s.heap h' → Q () { s with heap := h' }) : wpAny (model prog w) A (dictPut d (knd.hash k) key v) Q E s := by
  obtain ⟨o, es, ep, ho, hc, hd, hk, hp, hn⟩ := hm
  have hes : es.size ≤ sizeLine := by
    have e1 := hp.length
    rw [Array.length_toList] at e1
    omega
  unfold dictPut
  refine wpAny_bind (wpAny_dictFind_of hkey ho hd hk ?_)
  have hidx : (es.findIdx? fun e => knd.is k e.key) = kvs.findIdx? fun kv => decide (kv.1 = k) := by
    rw [← hp.findIdx k]
    obtain ⟨l⟩ := es
    simp
  cases hi : es.findIdx? fun e => knd.is k e.key with
  | some i =>
    refine wpAny_updateDict ho hd (hQ _ ⟨_, _, ep, Heap.get?_update_self _ ho (Obj.isFreed_of_dict (Obj.data_mapDict hd _)), hc.mapDict _, Obj.data_mapDict hd _, hk.modify _ _, ?_, ?_⟩ (Heap.SameBut.update ..))
    · rw [stored, if_pos (any_of_findIdx_some (hidx ▸ hi))]
      have hl : (es.toList.findIdx? fun e => knd.is k e.key) = some i := by
        rw [← hi]
        obtain ⟨l⟩ := es
        simp
      have z := hp.modify hn hl v
      obtain ⟨l⟩ := es
      simpa using z
    · rw [stored, if_pos (any_of_findIdx_some (hidx ▸ hi)), keys_map_store]
      exact hn
  | none =>
    have hnot : k ∉ kvs.map (·.1) := not_mem_of_findIdx_none (hidx ▸ hi)
    have hany : ¬ (kvs.any fun kv => decide (kv.1 = k)) = true := by
      rw [List.any_eq_true]
      rintro ⟨kv, h1, h2⟩
      exact hnot (List.mem_map.mpr ⟨kv, h1, of_decide_eq_true h2⟩)
    refine wpAny_updateDictKeys (hz := hes) ho hd (hQ _ ⟨_, _, ep + 1, Heap.get?_update_self _ ho (Obj.isFreed_of_dict (Obj.data_mapDictKeys hd _)), hc.mapDictKeys _, Obj.data_mapDictKeys hd _, hk.push hkey _, ?_, ?_⟩ (Heap.SameBut.update ..))
    · rw [stored, if_neg hany]
      have z := hp.append hkey (knd.hash k) v
      obtain ⟨l⟩ := es
      simpa using z
    · rw [stored, if_neg hany, List.map_append, List.nodup_append]
      refine ⟨hn, by simp, ?_⟩
      intro a ha b hb
      simp only [List.map_cons, List.map_nil, List.mem_singleton] at hb
      subst hb
      exact fun e => hnot (e ▸ ha)
theorem merge_into {d a : Addr} {kvs more : List (K × Value)} {Q : Unit → Shared → Prop} (hda : d ≠ a) (hoS : (a == sysModules) = false) (hnr : ∀ k b, knd.is k (.ref b) = false) (hd : s.heap.DictOf knd d kvs) (ho : s.heap.DictOf knd a more) (hsz : kvs.length + more.length ≤ sizeLine)
    (hQ : ∀ h', h'.DictOf knd d (merged kvs more) → Heap.SameBut d s.heap h' → Q () { s with heap := h' }) : wpAny (model prog w) A (mergeMapping d (.ref a) false) Q E s := by
  obtain ⟨od, esd, epd, hod, hcd, hdd, hkd, hpd, hnd⟩ := id hd
  obtain ⟨oo, eso, epo, hoo, hco, hdo', hko, hpo, hno⟩ := id ho
  unfold mergeMapping
  refine wpAny_bind (wpAny_isInstance ho.typeIs isSubtype_dict_dict ?_)
  rw [if_pos rfl]
  refine wpAny_bind (wpAny_specialOf ho.typeIs F.slot_dict_iter.lookup ?_)
  dsimp only
  rw [show ((some (Value.builtin "dict.__iter__") == some (Value.builtin "dict.__iter__")) : Bool) = true from by decide +kernel]
  rw [pure_bind]
  dsimp only
  rw [if_neg (by rw [hoS]; exact Bool.false_ne_true)]
  simp only [Bool.false_eq_true, if_false]
  refine wpAny_bind (wpAny_dictEntries hod hdd ?_)
  have tail : wpAny (model prog w) A (do
      let l ← dictEntries a
      let epoch ← dictEpoch a
      forIn (List.range l.size) PUnit.unit fun i (_ : PUnit) => (do
          let l' ← dictEntries a
          match l'[i]? with
            | some e => do
              holding [e.key, e.val] (dictPut d e.hash e.key e.val)
              let ep' ← dictEpoch a
              if (ep' != epoch) = true then do
                  (unsupported "dict.changed-during-merge" : Sem PUnit)
                  pure (ForInStep.yield PUnit.unit)
                else pure (ForInStep.yield PUnit.unit)
            | _ => do
              (unsupported "dict.changed-during-merge" : Sem PUnit)
              pure (ForInStep.yield PUnit.unit) : Sem (ForInStep PUnit))
      pure ()) Q E s := by
    refine wpAny_bind (wpAny_dictEntries hoo hdo' ?_)
    refine wpAny_bind (wpAny_dictEpoch hoo hdo' ?_)
    refine wpAny_bind ?_
    have hlen : more.length = eso.size := by
      rw [← hpo.length, Array.length_toList]
    rw [List.range_eq_range']
    refine wpAny_forIn_list _ (fun rest _ s' => ∃ h' i, s' = { s with heap := h' } ∧ rest = List.range' i (eso.size - i) ∧ i ≤ eso.size ∧ h'.DictOf knd d (merged kvs (more.take i)) ∧ h'.get? a = some oo ∧ Heap.SameBut d s.heap h')
      _ ?_ ?_ _ _ ⟨s.heap, 0, rfl, by simp, Nat.zero_le _, by simpa [merged] using hd, hoo, Heap.SameBut.refl _ _⟩
    · rintro x rest b s' ⟨h', i, rfl, hr, hi, hd', hoo', hs'⟩
      have hlt : i < eso.size := by
        rcases Nat.lt_or_ge i eso.size with h | h
        · exact h
        · rw [Nat.sub_eq_zero_of_le h] at hr; cases hr
      have e0 : eso.size - i = (eso.size - (i + 1)) + 1 := by omega
      rw [e0, List.range'_succ] at hr
      injection hr with hx hrest
      subst hx
      have hq : more[x]? = some more[x] := List.getElem?_eq_getElem (by omega)
      obtain ⟨hkey, hval⟩ := hpo.get? (e := eso[x]) (by simp [hlt]) hq
      obtain ⟨k2, hk2, hh⟩ := hko eso[x] (Array.getElem_mem hlt)
      have hke : k2 = more[x].1 := knd.inj _ _ _ hk2 hkey
      rw [hke] at hh hk2
      have hmx : (merged kvs (more.take x)).length ≤ sizeLine := by
        have e1 := merged_length_le kvs (more.take x)
        rw [List.length_take] at e1
        omega
      refine wpAny_bind (wpAny_dictEntries hoo' hdo' ?_)
      rw [Array.getElem?_eq_getElem hlt]
      dsimp only
      rw [hh, hval]
      refine wpAny_bind (wpAny_holding (dput_ok hk2 hd' hmx fun h2 hd2 hs2 => ?_))
      have ho2 : h2.get? a = some oo := (hs2.2 a fun z => hda z.symm).trans hoo'
      refine wpAny_bind (wpAny_dictEpoch ho2 hdo' ?_)
      rw [if_neg (by simp)]
      refine wpAny_pure ⟨h2, x + 1, rfl, hrest, hlt, ?_, ho2, hs'.trans hs2⟩
      rw [merged_take_succ kvs more x more[x] hq]
      exact hd2
    · rintro b s' ⟨h', i, rfl, hr, hi, hd', hoo', hs'⟩
      have hin : i = eso.size := by
        rcases Nat.lt_or_ge i eso.size with h | h
        · have e0 : eso.size - i = (eso.size - (i + 1)) + 1 := by omega
          rw [e0, List.range'_succ] at hr
          cases hr
        · exact Nat.le_antisymm hi h
      refine wpAny_pure (hQ h' ?_ hs')
      rw [hin, ← hlen, List.take_length] at hd'
      exact hd'
  split
  · refine wpAny_bind (wpAny_dictEntries hoo hdo' ?_)
    refine wpAny_bind ?_
    rw [← Array.forIn_toList]
    refine wpAny_forIn_list _ (fun rest _ s' => s' = s ∧ ∀ e ∈ rest, e ∈ eso) _ ?_ ?_ _ _ ⟨rfl, fun e he => by simpa using he⟩
    · rintro x rest b s' ⟨rfl, hr⟩
      have hx := hr x (List.mem_cons_self ..)
      obtain ⟨k, hk, _⟩ := hko x hx
      have hnx : ∀ r, x.key ≠ .ref r := fun r z => by rw [z, hnr] at hk; cases hk
      split
      · rename_i r hr'
        exact absurd hr' (hnx r)
      · exact wpAny_pure ⟨rfl, fun e he => hr e (List.mem_cons_of_mem _ he)⟩
    · rintro b s' ⟨rfl, _⟩
      exact tail
  · exact tail
end
theorem gather2 (main : Option Addr) (f : (Option (Sem Value) × Sem Value) → (Option Addr × List (Sem Value × Sem Value)) → Sem (ForInStep (Option Addr × List (Sem Value × Sem Value))))
    (hf : ∀ (p : Sem Value × Sem Value) (run : List (Sem Value × Sem Value)), run.length + 1 < 17 → f (some p.1, p.2) (main, run) = pure (.yield (main, run ++ [p]))) :
    ∀ (items run : List (Sem Value × Sem Value)), run.length + items.length < 17 → forIn (items.map fun p => (some p.1, p.2)) (main, run) f = pure (main, run ++ items)
  | [], run, _ => by rw [List.map_nil, List.forIn_nil, List.append_nil]
  | p :: rest, run, h => by
    rw [List.length_cons] at h
    rw [List.map_cons, List.forIn_cons, hf p run (by omega), pure_bind]
    have e := gather2 main f hf rest (run ++ [p]) (by rw [List.length_append, List.length_cons, List.length_nil]; omega)
    rw [List.append_assoc] at e
    exact e
section
variable {prog : Program} {w : World} {A : Around} {E : Value → Shared → Prop} {s : Shared}
theorem star_disp {v : Sem Value} {pairs : List (Sem Value × Sem Value)} {Q : Value → Shared → Prop} (h0 : pairs ≠ []) (hlen : pairs.length < 17)
    (h : wpAny (model prog w) A v (fun m s1 => wpAny (model prog w) A (mergeMapping s.heap.objs.size m false) (fun _ s2 => wpAny (model prog w) A (subDict pairs) (fun sub s3 => wpAny (model prog w) A (mergeMapping s.heap.objs.size (.ref sub) false) (fun _ s4 => Q (.ref s.heap.objs.size) s4) (fun _ _ => False) s3) E s2) (fun _ _ => False) s1) E
      { s with heap := s.heap.push { cls := .type "dict", data := .dict #[] } }) :
    wpAny (model prog w) A (dictDisplay ((none, v) :: pairs.map fun p => (some p.1, p.2))) Q E s := by
  unfold dictDisplay
  dsimp only
  rw [List.forIn_cons]
  have nof : ∀ (k : Value → Sem Unit) (e : Value) (s' : Shared), False → wpAny (model prog w) A (k e) (fun _ _ => False) E s' := fun _ _ _ h => h.elim
  refine wpAny_bind (wpAny_bind ?_)
  dsimp only
  refine wpAny_bind ?_
  rw [List.isEmpty_nil, if_pos rfl]
  refine wpAny_pure ?_
  dsimp only
  refine wpAny_bind (wpAny_alloc ?_)
  refine wpAny_bind (wpAny_holding (wpAny_mono h (fun m s1 h1 => ?_) fun _ _ e => e))
  refine wpAny_bind ?_
  refine wpAny_onRaise (wpAny_tryCatch (wpAny_onRaise (wpAny_holding (wpAny_mono h1 (fun _ s2 h2 => ?_) fun _ _ e => e.elim))))
  refine wpAny_pure ?_
  dsimp only
  rw [gather2 (some s.heap.objs.size) _ (fun p run hh => by
    have hne : ((run ++ [(p.1, p.2)]).length == 17) = false := by
      rw [List.length_append, List.length_cons, List.length_nil]
      exact beq_false_of_ne (by omega)
    simp only [hne, Bool.false_eq_true, if_false]) pairs [] (by rw [List.length_nil]; omega)]
  refine wpAny_pure ?_
  dsimp only
  have he : ([] ++ pairs).isEmpty = false := by
    cases pairs with
    | nil => exact absurd rfl h0
    | cons _ _ => rfl
  rw [he]
  simp only [Bool.false_eq_true, if_false]
  rw [List.nil_append]
  refine wpAny_bind (wpAny_bind (wpAny_holding (wpAny_mono h2 (fun sub s3 h3 => ?_) fun _ _ e => e)))
  refine wpAny_bind (wpAny_onRaise (wpAny_holding (wpAny_mono h3 (fun _ s4 h4 => ?_) fun _ _ e => e.elim)))
  exact wpAny_pure (wpAny_pure h4)
end
theorem mix_ref {P : Program} {w : World} (k : Key) (b : Addr) : (mixKind P w).is k (.ref b) = false := by
  cases k <;> rfl
section
variable {X : Cx}
/-- the pairs of a display, whatever their reading -/
abbrev TP := L2.St → Hp → (List (V × V) → Hp → Prop) → Prop
structure PPg (X : Cx) (pos : Pos) (keys : List (Option Expr)) (values : List Expr) (tp : TP) : Prop where
  run : ∀ (pins : List (Addr × Obj)) (s : Shared) (σ : L2.St) (H : Hp) (Q : List (V × V) → Hp → Prop), Inv X pins σ H s → tp σ H Q →
    wpAny (model X.prog X.w) X.A (evalPairs (pairTrees keys values X.env pos)) (fun vs s' => ∃ ps H', Inv X pins σ H' s' ∧ VV ps vs ∧ Q ps H') X.xe s
/-- {k: v, ..} -/
def tDispg (tp : TP) : TE := fun σ H Q => ∀ p, H p = none → tp σ (upd H p (.dK [])) fun ps H2 => H2 p = some (.dK []) ∧ ∃ kvs : List (Key × V), ps = kvs.map (fun kv => (kV kv.1, kv.2)) ∧ kvs.length ≤ 15 ∧ Q (.ref p) (upd H2 p (.dK (mergeK [] kvs)))
theorem pe_dispg {pos : Pos} {keys : List (Option Expr)} {values : List Expr} {tp : TP} (h : PPg X pos keys values tp) (hall : keys.all (·.isSome) = true) (hl : keys.length = values.length) (h0 : keys ≠ [])
    (h15 : keys.length ≤ 15) : PE X (.Dict keys values pos) (tDispg tp) := by
  refine ⟨fun pins s σ H Q I q => ?_⟩
  have fresh := I.hok.fresh (Nat.le_refl s.heap.objs.size)
  have I1 := I.laid (o := .dK []) (a := s.heap.objs.size) (h' := s.heap.push { cls := .type "dict", data := .dict #[] }) (t' := s.toks) (fun _ _ q => Heap.get?_push_of_some _ q) (Nat.le_refl _) (dk_empty s.heap I.big)
  refine wpAny_Dict_walk (knd := mixKind X.prog X.w) hall hl h0 h15 (thn (h.run pins _ σ _ _ I1 (q _ fresh)) fun ws s2 ⟨ps, H2, I2, rel, e, kvs, ep, lk, q2⟩ => ?_)
  subst ep
  obtain ⟨rs, c, rk⟩ := carries_of (P := X.prog) (w := X.w) rel
  obtain ⟨z, hd, vs0, r0, dd⟩ := dk_of I2.hok e
  cases r0
  refine ⟨rs, c, dd, fun h' dd' hs => ⟨.ref s.heap.objs.size, _, ?_, rfl, q2⟩⟩
  have h1 := length_mergeK kvs []
  have hz : (mergeK [] kvs).length ≤ sizeLine := by
    rw [List.length_nil] at h1
    rw [sizeLine_eq]
    omega
  have hx : ∃ q, h'.get? s.heap.objs.size = some q := let ⟨q, _, _, hq, _⟩ := dd'; ⟨q, hq⟩
  exact d_write I2 (by rw [e]; exact True.intro) hs hx (dk_new hz hd (rk.merge (kvs := []) (vs := []) .nil) dd')
/-- {**e, k: v, ..}: the first dict's rows, then the pairs, made beside it -/
def tStar (te : TE) (tp : TP) : TE := fun σ H Q => ∀ p, H p = none → te σ (upd H p (.dK [])) fun v H1 => H1 p = some (.dK []) ∧ ∃ q kvs0, v = .ref q ∧ p ≠ q ∧ Rd H1 q (.dK kvs0) ∧
  ∀ r, upd H1 p (.dK kvs0) r = none → tp σ (upd (upd H1 p (.dK kvs0)) r (.dK [])) fun ps H3 => H3 r = some (.dK []) ∧ ∃ kvs1, H3 p = some (.dK kvs1) ∧ ∃ kvs : List (Key × V), ps = kvs.map (fun kv => (kV kv.1, kv.2)) ∧ kvs.length ≤ 15 ∧ kvs1.length + 15 ≤ sizeLine ∧
    Q (.ref p) (upd (upd H3 r (.dK (mergeK [] kvs))) p (.dK (mergeK kvs1 (mergeK [] kvs))))
theorem mergeK_self (kvs : List (Key × V)) (hn : (kvs.map (·.1)).Nodup) : mergeK [] kvs = kvs := by
  have go : ∀ (more acc : List (Key × V)), ((acc ++ more).map (·.1)).Nodup → mergeK acc more = acc ++ more := by
    intro more
    induction more with
    | nil => intro acc _; exact (List.append_nil _).symm
    | cons x r ih =>
      intro acc hnn
      have hnot : ¬ (acc.any fun kv => decide (kv.1 = x.1)) = true := by
        rw [List.any_eq_true]
        rintro ⟨y, hy, he⟩
        rw [List.map_append, List.map_cons, List.nodup_append] at hnn
        exact hnn.2.2 y.1 (List.mem_map.mpr ⟨y, hy, rfl⟩) x.1 (List.mem_cons_self ..) (of_decide_eq_true he)
      have e1 : mergeK acc (x :: r) = mergeK (acc ++ [x]) r := by
        show mergeK (putK acc x.1 x.2) r = _
        unfold putK
        rw [if_neg hnot]
      rw [e1, ih (acc ++ [x]) (by rw [List.append_assoc]; exact hnn), List.append_assoc]
      rfl
  have := go kvs [] (by rw [List.nil_append]; exact hn)
  rw [List.nil_append] at this
  exact this
theorem kv_keys : ∀ {kvs : List (Key × V)} {rs : List (Key × Value)}, KV kvs rs → kvs.map (·.1) = rs.map (·.1)
  | _, _, .nil => rfl
  | _, _, .cons h t => by
    rw [List.map_cons, List.map_cons, h.1, kv_keys t]
theorem pe_star {ve : Expr} {pos : Pos} {keys : List (Option Expr)} {values : List Expr} {te : TE} {tp : TP} (he : PE X ve te) (h : PPg X pos keys values tp) (hall : keys.all (·.isSome) = true) (hl : keys.length = values.length) (h0 : keys ≠ [])
    (h15 : keys.length ≤ 15) : PE X (.Dict (none :: keys) (ve :: values) pos) (tStar te tp) := by
  refine ⟨fun pins s σ H Q I q => ?_⟩
  have hn := I.hok.fresh (Nat.le_refl s.heap.objs.size)
  have I1 := I.laid (o := .dK []) (a := s.heap.objs.size) (h' := s.heap.push { cls := .type "dict", data := .dict #[] }) (t' := s.toks) (fun _ _ q => Heap.get?_push_of_some _ q) (Nat.le_refl _) (dk_empty s.heap I.big)
  have hpl := pairTrees_length keys values X.env pos hall hl
  rw [arm_eval_Dict]
  refine wpAny_bind (wpAny_standAt ?_)
  have hz : (evalEachOpt (none :: keys) X.env).zip ((evalEach (ve :: values) X.env).map fun v => do let x ← v; standAt pos; pure x) = (none, (do let x ← eval ve X.env; standAt pos; pure x)) :: (pairTrees keys values X.env pos).map fun p => (some p.1, p.2) := by
    rw [← zip_pairTrees keys values X.env pos hall hl]
    rfl
  rw [hz]
  have hp0 : pairTrees keys values X.env pos ≠ [] := by
    intro e
    rw [e] at hpl
    exact h0 (List.length_eq_zero_iff.mp hpl.symm)
  refine star_disp hp0 (by rw [hpl]; omega) (wpAny_bind (thn (he.run pins _ σ _ _ I1 (q _ hn)) fun u s1 ⟨v, H1, I2, rv, e, qa, kvs0, ev, hne, hrd, q2⟩ => wpAny_bind (wpAny_standAt (wpAny_pure ?_))))
  subst ev
  cases (show u = Value.ref qa from rv)
  obtain ⟨z0, hd0, rs0, rk0, dd0⟩ := dk_rd I2.hok hrd
  obtain ⟨z, hd, vs0, r0, dd⟩ := dk_of I2.hok e
  cases r0
  have hnd : (kvs0.map (·.1)).Nodup := by
    obtain ⟨_, _, _, _, _, _, _, _, hno⟩ := id dd0
    rw [kv_keys rk0]
    exact hno
  have hlen0 : rs0.length ≤ sizeLine := by rw [← rk0.length]; exact z0
  refine merge_into hne hd0 (fun k b => mix_ref k b) dd dd0 (by rw [List.length_nil]; omega) fun h' dd' hs' => ?_
  have rk1 : KV kvs0 (merged [] rs0) := by
    have := (rk0.merge (kvs := []) (vs := []) .nil)
    rw [mergeK_self kvs0 hnd] at this
    exact this
  have hx' : ∃ q, h'.get? s.heap.objs.size = some q := let ⟨q, _, _, hq, _⟩ := dd'; ⟨q, hq⟩
  have I3 := d_write (t' := s1.toks) I2 (by rw [e]; exact True.intro) hs' hx' (dk_new z0 hd rk1 dd')
  -- the pairs
  have hn3 := I3.hok.fresh (Nat.le_refl h'.objs.size)
  have I4 := I3.laid (a := h'.objs.size) (o := .dK []) (h' := h'.push { cls := .type "dict", data := .dict #[] }) (t' := s1.toks) (fun _ _ q => Heap.get?_push_of_some _ q) (Nat.le_refl _) (dk_empty h' I3.big)
  refine wpAny_subDict (knd := mixKind X.prog X.w) (by rw [hpl]; exact h15) (thn (h.run pins _ σ _ _ I4 (q2 _ hn3)) fun ws s4 ⟨ps, H3, I5, rel, e3, kvs1, e1, kvs, ep, lk, l1, q3⟩ => ?_)
  subst ep
  obtain ⟨rs, c, rk⟩ := carries_of (P := X.prog) (w := X.w) rel
  obtain ⟨z5, hd5, vs5, r5, dd5⟩ := dk_of I5.hok e3
  cases r5
  refine ⟨rs, c, dd5, fun h6 dd6 hs6 => ?_⟩
  have hz6 : (mergeK [] kvs).length ≤ 15 := by
    have h1 := length_mergeK kvs []
    rw [List.length_nil] at h1
    omega
  have hs15 : (15 : Nat) ≤ sizeLine := by rw [sizeLine_eq]; omega
  have hx6 : ∃ q, h6.get? h'.objs.size = some q := let ⟨q, _, _, hq, _⟩ := dd6; ⟨q, hq⟩
  have rk6 := rk.merge (kvs := []) (vs := []) .nil
  have I6 := d_write (t' := s4.toks + ws.length) I5 (by rw [e3]; exact True.intro) hs6 hx6 (dk_new (Nat.le_trans hz6 hs15) hd5 rk6 dd6)
  have hpr : s.heap.objs.size ≠ h'.objs.size := by
    intro e'
    rw [← e', upd_same] at hn3
    cases hn3
  have e1' : upd H3 h'.objs.size (.dK (mergeK [] kvs)) s.heap.objs.size = some (.dK kvs1) := by rw [upd_ne hpr]; exact e1
  have e6 : upd H3 h'.objs.size (.dK (mergeK [] kvs)) h'.objs.size = some (.dK (mergeK [] kvs)) := upd_same
  obtain ⟨z7, hd7, rs7, rk7, dd7⟩ := dk_of I6.hok e1'
  obtain ⟨z8, hd8, rs8, rk8, dd8⟩ := dk_of I6.hok e6
  have hl7 : rs7.length = kvs1.length := (rk7.length).symm
  have hl8 : rs8.length = (mergeK [] kvs).length := (rk8.length).symm
  refine merge_into hpr hd8 (fun k b => mix_ref k b) dd7 dd8 (by omega) fun h9 dd9 hs9 => ⟨.ref s.heap.objs.size, _, ?_, rfl, q3⟩
  have hx9 : ∃ q, h9.get? s.heap.objs.size = some q := let ⟨q, _, _, hq, _⟩ := dd9; ⟨q, hq⟩
  have hz9 : (mergeK kvs1 (mergeK [] kvs)).length ≤ sizeLine := by
    have h1 := length_mergeK (mergeK [] kvs) kvs1
    omega
  exact d_write I6 (by rw [e1']; exact True.intro) hs9 hx9 (dk_new hz9 hd7 (rk8.merge rk7) dd9)
end
end Mi
end
section
/-! Mi, part 37: dict displays. -/
namespace Mi
open PySem PySem.Spec PyProof.Rows L2
def flat : List (V × V) → List V
  | [] => []
  | (x, y) :: r => x :: y :: flat r
def tpD (K : PySem.W.Frag) (bs : Bs) (f : Sg → Store → Res (List D)) : TP := fun σ H Q => tX K bs (RDL K) f σ H fun vs H' => ∀ ps, vs = flat ps → Q ps H'
section
variable {K : PySem.W.Frag} {bs : Bs} {m : Nat → Addr} {n : Nat} {H : Hp} {Q : VK} {st : Store}
theorem kvs_ok : ∀ {ds : List D} {ps : List (V × V)} {l : List (D × D)}, RDL K m n H ds (flat ps) → kvsD ds = some l →
    ∃ kvs : List (Key × V), ps = kvs.map (fun kv => (kV kv.1, kv.2)) ∧ kvs.length = l.length ∧ Paired (fun p kv => p.1 = ofKey kv.1 ∧ RD K m n H p.2 kv.2) l kvs
  | [], ps, l, r, e => by
    cases e
    cases ps with
    | nil => exact ⟨[], rfl, rfl, .nil⟩
    | cons p r' => have z := r.len; cases z
  | [d], ps, l, r, e => by cases e
  | d :: d2 :: r', ps, l, r, e => by
    cases ps with
    | nil => have z := r.len; cases z
    | cons p ps =>
      obtain ⟨x, y⟩ := p
      unfold RDL at r
      obtain ⟨w, vs, e1, r1, r2⟩ := r
      cases e1
      unfold RDL at r2
      obtain ⟨w2, vs2, e2, r3, r4⟩ := r2
      cases e2
      unfold kvsD at e
      split at e
      · rename_i kx l' hk hl'
        cases e
        obtain ⟨kvs, h1, h2, h3⟩ := kvs_ok r4 hl'
        have e3 := keyOf_some hk
        subst e3
        have e4 : x = kV kx := by
          cases kx with
          | inl i =>
            unfold ofKey RD at r1
            exact r1
          | inr z =>
            unfold ofKey RD at r1
            exact r1
        subst e4
        exact ⟨(kx, y) :: kvs, by rw [List.map_cons, ← h1], by rw [List.length_cons, List.length_cons, h2], .cons ⟨rfl, r3⟩ h3⟩
      · cases e
theorem isE0_eq {p : Nat} (h : isE0 st p = true) : st[p]? = some (.dct [] []) := by
  unfold isE0 at h
  split at h
  · assumption
  · cases h
theorem isE0_at {p : Nat} (W : Wf K bs m st H) (h : isE0 st p = true) : p < st.length ∧ H (m p) = some (.dK []) := by
  have h1 := isE0_eq h
  obtain ⟨kk, vs, h2, h3, h4, _⟩ := W.ob _ _ h1
  have h5 : kk = [] := by
    cases kk with
    | nil => rfl
    | cons _ _ => cases h4
  rw [h5] at h2
  exact ⟨(List.getElem?_eq_some_iff.mp h1).1, h2⟩
/-- a dict of the store is written -/
theorem wrD_ok {b : Nat} {st' : Store} {i : Nat} {kk : List Key} {xs : List D} {vs : List V} (W : Wf K bs m st H) (hb : ∀ c ∈ bs, c ≤ b) (hw : wr b st i (.dct (kk.map ofKey) xs) = some st') (hl : kk.length = vs.length)
    (hr : RDL K m st.length H xs vs) : Stp m st.length H m st'.length (upd H (m i) (.dK (kk.zip vs))) ∧ Wf K bs m st' (upd H (m i) (.dK (kk.zip vs))) ∧ st'.length = st.length := by
  have hi : i < st.length := by
    unfold Mi.wr at hw
    split at hw
    · rename_i hc
      rw [Bool.and_eq_true, Bool.and_eq_true] at hc
      exact of_decide_eq_true hc.1.1
    · cases hw
  have s := Stp.wr (u := .dK (kk.zip vs)) hi (W.ne hi)
  obtain ⟨h1, _, W'⟩ := W.wr hb hw ⟨kk, vs, upd_same, hl, rfl, hr.step s _ _⟩
  exact ⟨by rw [h1]; exact s, W', h1⟩
end
section
variable {X : Cx} {bs : Bs} {R : Rt} {b : Nat}
theorem ppg_nil {pos : Pos} : PPg X pos [] [] (tpD X.K bs (evA R b .nil)) := by
  refine ⟨fun pins s σ H Q I h => pairTrees_nil_walk ⟨[], H, I, .nil, ?_⟩⟩
  obtain ⟨m, σd, st, W, r, q⟩ := h
  have q' : Ok X.K bs (RDL X.K) m st.length H (fun vs H' => ∀ ps, vs = flat ps → Q ps H') (.ok [] st) := by unfold evA at q; exact q
  exact (q'.at W RDL.nil) [] rfl
theorem ppg_cons {pos : Pos} {k v es : E} {kx vx : Expr} {ks : List (Option Expr)} {vs : List Expr} (hk : PEd X bs (ev R b k) kx) (hv : PEd X bs (ev R b v) vx) (hr : PPg X pos ks vs (tpD X.K bs (evA R b es))) :
    PPg X pos (some kx :: ks) (vx :: vs) (tpD X.K bs (evA R b (.cons k (.cons v es)))) := by
  refine ⟨fun pins s σ H Q I h => ?_⟩
  obtain ⟨m, σd, st, W, r, q⟩ := h
  have q' : Ok X.K bs (RDL X.K) m st.length H (fun vs H' => ∀ ps, vs = flat ps → Q ps H') ((ev R b k σd st).bind fun d st1 => (evA R b (.cons v es) σd st1).bind fun ds st2 => .ok (d :: ds) st2) := by unfold evA at q; exact q
  refine pairTrees_cons_walk (thn (hk.run pins s σ H _ I ⟨m, σd, st, W, r, q'.bind (rel := RD X.K)⟩) fun u s1 ⟨x, H1, I1, rx, h1⟩ => ?_)
  obtain ⟨m1, st1, d1, S1, W1, r1, q1⟩ := h1
  have q1' : Ok X.K bs (RDL X.K) m1 st1.length H1 (fun vs H' => ∀ ps, vs = flat ps → Q ps H') (((ev R b v σd st1).bind fun d st1 => (evA R b es σd st1).bind fun ds st2 => .ok (d :: ds) st2).bind fun ds st2 => .ok (d1 :: ds) st2) := by
    have e : evA R b (.cons v es) σd st1 = (ev R b v σd st1).bind fun d st1 => (evA R b es σd st1).bind fun ds st2 => .ok (d :: ds) st2 := by
      conv => lhs; unfold evA
    rw [e] at q1
    exact q1
  have e2 : (((ev R b v σd st1).bind fun d st1 => (evA R b es σd st1).bind fun ds st2 => Res.ok (d :: ds) st2).bind fun ds st2 => Res.ok (d1 :: ds) st2) = (ev R b v σd st1).bind fun d st1 => (evA R b es σd st1).bind fun ds st2 => .ok (d1 :: d :: ds) st2 := by
    cases ev R b v σd st1 with
    | bad => rfl
    | ok d st2 =>
      show ((evA R b es σd st2).bind fun ds st2 => Res.ok (d :: ds) st2).bind (fun ds st2 => Res.ok (d1 :: ds) st2) = (evA R b es σd st2).bind fun ds st2 => .ok (d1 :: d :: ds) st2
      cases evA R b es σd st2 with
      | bad => rfl
      | ok ds st3 => rfl
  rw [e2] at q1'
  refine thn (hv.run pins s1 σ H1 _ I1 ⟨m1, σd, st1, W1, r.step S1, q1'.bind (rel := RD X.K)⟩) fun u2 s2 ⟨y, H2, I2, ry, h2⟩ => ?_
  obtain ⟨m2, st2, d2, S2, W2, r2, q2⟩ := h2
  refine thn (hr.run pins s2 σ H2 (fun ps H' => Q ((x, y) :: ps) H') I2 ⟨m2, σd, st2, W2, (r.step S1).step S2, (q2.bind (rel := RDL X.K)).mono ?_⟩) fun ws s3 ⟨ps, H3, I3, rel, q3⟩ => ⟨(x, y) :: ps, H3, I3, .cons ⟨rx, ry⟩ rel, q3⟩
  intro vs3 H3 h3 ps hps
  subst hps
  obtain ⟨m3, st3, ds, S3, W3, r3, q3⟩ := h3
  exact q3.at W3 (RDL.cons ((r1.step S2 _ _).step S3 _ _) (RDL.cons (r2.step S3 _ _) r3)) ((x, y) :: ps) rfl
/-- what the pairs leave -/
theorem dsp_at {m : Nat → Addr} {st st1 : Store} {H : Hp} {ds : List D} {ps : List (V × V)} {p : Nat} (W : Wf X.K bs m st H) (hb : ∀ c ∈ bs, c ≤ p) (r : RDL X.K m st.length H ds (flat ps)) (e : dspD p st ds = some st1) :
    H (m p) = some (.dK []) ∧ p < st.length ∧ st1.length = st.length ∧ ∃ kvs : List (Key × V), ps = kvs.map (fun kv => (kV kv.1, kv.2)) ∧ kvs.length ≤ 15 ∧
      Stp m st.length H m st1.length (upd H (m p) (.dK (mergeK [] kvs))) ∧ Wf X.K bs m st1 (upd H (m p) (.dK (mergeK [] kvs))) := by
  unfold dspD at e
  split at e
  · rename_i l hl
    split at e
    · rename_i hc
      rw [Bool.and_eq_true] at hc
      obtain ⟨kvs, k1, k2, k3⟩ := kvs_ok r hl
      obtain ⟨kk', vs', m1, m2, m3, m4⟩ := mrg_ok k3 (kk := []) (ds := []) (vs := []) RDL.nil rfl
      have m1' : mergeK [] kvs = kk'.zip vs' := m1
      have m3' : (mrgD l [] []).1 = kk'.map ofKey := m3
      obtain ⟨hp, he⟩ := isE0_at W hc.1
      rw [m3'] at e
      obtain ⟨S, W', hl'⟩ := wrD_ok W hb e m2 m4
      refine ⟨he, hp, hl', kvs, k1, by rw [k2]; exact Nat.le_of_ble_eq_true hc.2, ?_⟩
      rw [m1']
      exact ⟨S, W'⟩
    · cases e
  · cases e
theorem ed_dsp {es : E} {pos : Pos} {keys : List (Option Expr)} {values : List Expr} (h : PPg X pos keys values (tpD X.K bs (evA R b es))) (hall : keys.all (·.isSome) = true) (hl : keys.length = values.length) (h0 : keys ≠ [])
    (h15 : keys.length ≤ 15) : PEd X bs (ev R b (.dsp es)) (.Dict keys values pos) := by
  refine PE.by (pe_dispg h hall hl h0 h15) ?_
  intro σ H Q hh p hp
  obtain ⟨m, σd, st, W, r, q⟩ := hh
  have q' : Ok X.K bs (RD X.K) m st.length H Q ((evA R b es σd (st ++ [.dct [] []])).bind fun ds st1 => (some_ (dspD st.length st1 ds) st1).bind fun st2 _ => .ok (.loc st.length) st2) := by unfold ev at q; exact q
  have hle : (st ++ [O.dct [] []]).length = st.length + 1 := by simp
  have SP : Stp m st.length H (put m st.length p) (st ++ [O.dct [] []]).length (upd H p (.dK [])) := by rw [hle]; exact Stp.put hp
  have WP : Wf X.K bs (put m st.length p) (st ++ [O.dct [] []]) (upd H p (.dK [])) := W.put hp ⟨[], [], upd_same, rfl, rfl, RDL.nil⟩
  refine ⟨_, σd, _, WP, r.step SP, ((q'.step SP).bind (rel := RDL X.K)).mono ?_⟩
  intro vs H2 h2 ps hps
  subst hps
  obtain ⟨m2, st2, ds, S2, W2, r2, q2⟩ := h2
  obtain ⟨st3, hd, q3⟩ := q2.bindS
  obtain ⟨he, hlt, hl3, kvs, k1, k2, S3, W3⟩ := dsp_at W2 W.le r2 hd
  have hm2 : m2 st.length = p := (S2.eq _ (by rw [hle]; exact Nat.lt_succ_self _)).trans put_at
  rw [hm2] at he S3 W3
  refine ⟨he, kvs, k1, k2, (q3.step S3).at W3 ?_⟩
  unfold RD
  exact ⟨by rw [hl3]; exact hlt, by rw [hm2]⟩
theorem zip_rows {K : PySem.W.Frag} {m : Nat → Addr} {n : Nat} {H : Hp} : ∀ {kk : List Key} {ds : List D} {vs : List V}, RDL K m n H ds vs → Paired (fun p kv => p.1 = ofKey kv.1 ∧ RD K m n H p.2 kv.2) ((kk.map ofKey).zip ds) (kk.zip vs)
  | [], ds, vs, r => .nil
  | k :: kk, [], vs, r => by
    have e := r.zeroV
    subst e
    exact .nil
  | k :: kk, d :: ds, vs, r => by
    unfold RDL at r
    obtain ⟨v, vs', rfl, r1, r2⟩ := r
    exact .cons ⟨rfl, r1⟩ (zip_rows r2)
/-- the first dict's rows are there -/
theorem dst_at {m : Nat → Addr} {st st1 : Store} {H : Hp} {d : D} {v : V} {p : Nat} (W : Wf X.K bs m st H) (hb : ∀ c ∈ bs, c ≤ p) (r : RD X.K m st.length H d v) (e : dstD p st d = some st1) :
    H (m p) = some (.dK []) ∧ p < st.length ∧ st1.length = st.length ∧ ∃ q kvs0, v = .ref q ∧ m p ≠ q ∧ Rd H q (.dK kvs0) ∧ Stp m st.length H m st1.length (upd H (m p) (.dK kvs0)) ∧ Wf X.K bs m st1 (upd H (m p) (.dK kvs0)) := by
  unfold dstD at e
  split at e
  · rename_i ks vs hd
    split at e
    · rename_i hc
      rw [Bool.and_eq_true] at hc
      obtain ⟨hp, he⟩ := isE0_at W hc.1
      have key : ∃ (q : Addr) (kk : List Key) (ws : List V), v = .ref q ∧ m p ≠ q ∧ Rd H q (.dK (kk.zip ws)) ∧ kk.length = ws.length ∧ ks = kk.map ofKey ∧ RDL X.K m st.length H vs ws := by
        rcases der_dct hd with z | ⟨i, z, hi⟩
        · subst z
          unfold RD at r
          obtain ⟨q, kk, ws, h1, h2, h3, h4, h5, h6⟩ := r
          exact ⟨q, kk, ws, h1, h3 p hp, h2, h4, h5, h6⟩
        · subst z
          unfold RD at r
          obtain ⟨h1, h2⟩ := r
          obtain ⟨kk, ws, h3, h4, h5, h6⟩ := W.ob _ _ hi
          refine ⟨m i, kk, ws, h2, fun z => ?_, .inl h3, h4, h5, h6⟩
          have hip : p = i := W.inj _ _ hp h1 z
          have hn : (!(Nat.beq i p)) = true := hc.2
          rw [hip, Nat.beq_refl] at hn
          cases hn
      obtain ⟨q, kk, ws, h1, h2, h3, h4, h5, h6⟩ := key
      subst h5
      obtain ⟨S, W', hl'⟩ := wrD_ok W hb e h4 h6
      exact ⟨he, hp, hl', q, _, h1, h2, h3, S, W'⟩
    · cases e
  · cases e
/-- one dict into the other -/
theorem dse_at {m : Nat → Addr} {st st1 : Store} {H : Hp} {more : List (Key × V)} {p r : Nat} (W : Wf X.K bs m st H) (hb : ∀ c ∈ bs, c ≤ p) (hr : H (m r) = some (.dK more)) (e : dseD p r st = some st1) :
    p < st.length ∧ st1.length = st.length ∧ ∃ kvs1, H (m p) = some (.dK kvs1) ∧ kvs1.length + 15 ≤ sizeLine ∧ Stp m st.length H m st1.length (upd H (m p) (.dK (mergeK kvs1 more))) ∧ Wf X.K bs m st1 (upd H (m p) (.dK (mergeK kvs1 more))) := by
  unfold dseD at e
  split at e
  · rename_i ks vs ks' vs' h1 h2
    split at e
    · rename_i hc
      obtain ⟨kk, ws, a1, a2, a3, a4⟩ := W.ob _ _ h1
      obtain ⟨kk', ws', b1, b2, b3, b4⟩ := W.ob _ _ h2
      rw [hr] at b1
      cases b1
      subst a3 b3
      obtain ⟨kx, wx, m1, m2, m3, m4⟩ := mrg_ok (zip_rows b4) (kk := kk) (ds := vs) (vs := ws) a4 a2
      rw [m3] at e
      obtain ⟨S, W', hl'⟩ := wrD_ok W hb e m2 m4
      have hz := Nat.le_of_ble_eq_true hc
      rw [List.length_map] at hz
      refine ⟨(List.getElem?_eq_some_iff.mp h1).1, hl', kk.zip ws, a1, ?_, ?_⟩
      · rw [List.length_zip, sizeLine_eq]
        have : big = 16777216 := rfl
        omega
      · rw [m1]
        exact ⟨S, W'⟩
    · cases e
  · cases e
theorem ed_dst {e es : E} {ve : Expr} {pos : Pos} {keys : List (Option Expr)} {values : List Expr} (he : PEd X bs (ev R b e) ve) (h : PPg X pos keys values (tpD X.K bs (evA R b es))) (hall : keys.all (·.isSome) = true) (hl : keys.length = values.length) (h0 : keys ≠ [])
    (h15 : keys.length ≤ 15) : PEd X bs (ev R b (.dst e es)) (.Dict (none :: keys) (ve :: values) pos) := by
  refine PE.by (pe_star he h hall hl h0 h15) ?_
  intro σ H Q hh p hp
  obtain ⟨m, σd, st, W, r, q⟩ := hh
  have q' : Ok X.K bs (RD X.K) m st.length H Q ((ev R b e σd (st ++ [.dct [] []])).bind fun d st1 => (some_ (dstD st.length st1 d) st1).bind fun st2 _ => (evA R b es σd (st2 ++ [.dct [] []])).bind fun ds st3 =>
    (some_ (dspD st2.length st3 ds) st3).bind fun st4 _ => (some_ (dseD st.length st2.length st4) st4).bind fun st5 _ => .ok (.loc st.length) st5) := by unfold ev at q; exact q
  have hle : (st ++ [O.dct [] []]).length = st.length + 1 := by simp
  have SP : Stp m st.length H (put m st.length p) (st ++ [O.dct [] []]).length (upd H p (.dK [])) := by rw [hle]; exact Stp.put hp
  have WP : Wf X.K bs (put m st.length p) (st ++ [O.dct [] []]) (upd H p (.dK [])) := W.put hp ⟨[], [], upd_same, rfl, rfl, RDL.nil⟩
  refine ⟨_, σd, _, WP, r.step SP, ((q'.step SP).bind (rel := RD X.K)).mono ?_⟩
  intro v H1 h1
  obtain ⟨m1, st1, d, S1, W1, r1, q1⟩ := h1
  obtain ⟨st2, hd, q2⟩ := q1.bindS
  obtain ⟨e1, hlt, hl2, qa, kvs0, ev, hne, hrd, S2, W2⟩ := dst_at W1 W.le r1 hd
  have hm1 : m1 st.length = p := (S1.eq _ (by rw [hle]; exact Nat.lt_succ_self _)).trans put_at
  rw [hm1] at e1 hne S2 W2
  refine ⟨e1, qa, kvs0, ev, hne, hrd, fun r' hr' => ?_⟩
  have hle2 : (st2 ++ [O.dct [] []]).length = st2.length + 1 := by simp
  have SP2 : Stp m1 st2.length (upd H1 p (.dK kvs0)) (put m1 st2.length r') (st2 ++ [O.dct [] []]).length (upd (upd H1 p (.dK kvs0)) r' (.dK [])) := by rw [hle2]; exact Stp.put hr'
  have WP2 : Wf X.K bs (put m1 st2.length r') (st2 ++ [O.dct [] []]) (upd (upd H1 p (.dK kvs0)) r' (.dK [])) := W2.put hr' ⟨[], [], upd_same, rfl, rfl, RDL.nil⟩
  refine ⟨_, σd, _, WP2, ((r.step SP).step S1 |>.step S2).step SP2, (((q2.step S2).step SP2).bind (rel := RDL X.K)).mono ?_⟩
  intro vs H3 h3 ps hps
  subst hps
  obtain ⟨m3, st3, ds, S3, W3, r3, q3⟩ := h3
  obtain ⟨st4, hd4, q4⟩ := q3.bindS
  obtain ⟨st5, hd5, q5⟩ := q4.bindS
  obtain ⟨e4, hlt4, hl4, kvs, k1, k2, S4, W4⟩ := dsp_at W3 W2.le r3 hd4
  have hm3 : m3 st2.length = r' := (S3.eq _ (by rw [hle2]; exact Nat.lt_succ_self _)).trans put_at
  have hps2 : st.length < st2.length := by rw [hl2]; exact hlt
  have hm3p : m3 st.length = p := (S3.eq _ (by rw [hle2]; exact Nat.lt_succ_of_lt hps2)).trans ((put_lt hps2).trans hm1)
  rw [hm3] at e4 S4 W4
  have hrp : p ≠ r' := by
    intro z
    rw [← z, upd_same] at hr'
    cases hr'
  obtain ⟨hlt5, hl5, kvs1, e5, lk, S5, W5⟩ := dse_at W4 W.le (r := st2.length) (more := mergeK [] kvs) (by rw [hm3]; exact upd_same) hd5
  rw [hm3p] at e5 S5 W5
  rw [upd_ne hrp] at e5
  refine ⟨e4, kvs1, e5, kvs, k1, k2, lk, ((q5.step S4).step S5).at W5 ?_⟩
  unfold RD
  exact ⟨by rw [hl5]; exact hlt5, by rw [hm3p]⟩
end
end Mi
end
section
/-! Mi, part 22: generator expressions that all, any walk: the loop of their frame. -/
namespace Mi
open PySem PySem.Spec PyProof.Rows L2
/-- while the generator sleeps: what stands is kept -/
def Later (s s' : Shared) : Prop := s'.os = s.os ∧ AllBare s'.gens ∧ ∀ b o, s.heap.get? b = some o → s'.heap.get? b = some o
theorem Inv.later {X : Cx} {pins : List (Addr × Obj)} {σ : L2.St} {H : Hp} {s s' : Shared} (I : L2.Inv X pins σ H s) (h : Later s s') : L2.Inv X pins σ H s' :=
  I.call' (ch := []) h.1 (Un.kept h.2.2) (I.hok.kept h.2.2) h.2.1 fun b z => by cases z
/-- what is handed out: a value with a truth; the one that ends the walk, or the walk may go on -/
def GxY (X : Cx) (stop : Bool) (Qf : Hp → Prop) : Protocol := fun n s0 v s kap =>
  ∃ pins σ H c, L2.Inv X pins σ H s ∧ v = .bool c ∧ (c = stop → Qf H) ∧ (c ≠ stop → ∀ s', Later s s' → kap (.send .none) s')
def GxR (X : Cx) (Qe : Hp → Prop) : GenEnd := fun n s0 r s => r = .ok .next ∧ ∃ pins σ H, L2.Inv X pins σ H s ∧ Qe H
theorem seg_bw {M : Model} {A : Around} {R : GenEnd} {Y : Protocol} {n : Nat} {s0 : Shared} {c : Code} {fs : List PySem.Frame} {s : Shared} {α β : Type} {m : Sem α} {K : α → Sem β} {K' : β → Sem PySem.Fin} {H' : Value → Sem PySem.Fin} {gd lv}
    (h : wpAny M (A.over c fs) m (fun a s' => Seg M A R Y n s0 c ((K a).wrap K' H' gd lv) fs s') (fun _ _ => False) s) : Seg M A R Y n s0 c ((m >>= K).wrap K' H' gd lv) fs s :=
  seg_bind_wrap (wpAny_mono h (fun _ _ z => z) fun _ _ z => z.elim)
section
variable {X : Cx} {A : Around}
theorem seg_gloop {elt tg iter : Expr} {ifs : List Expr} {scope : Scope} {pos : Pos} {it : Addr} {fp : List Addr} {tn : Nat → Heap → Prop} {J : It} {g : TG} {tt : TT} {te : TE} {σ : L2.St} {vs : List Nat} {stop : Bool} {Qe Qf : Hp → Prop}
    (hA : A.over (.compLoop (.GeneratorExp elt [⟨tg, iter, ifs, 0⟩] scope pos) 0 (.ref it) .none X.env) [] = X.A) (hc : X.calm = true) (hxe : X.xe = fun _ _ => False) (hco : X.env.scope.isCoroutine = false) (T : Turn X.prog X.w X.K tg J fp it tn)
    (hg : PG X tg g) (ht : PTs X ifs tt) (he : PE X elt te) (hfp : ∀ {σ : L2.St} {H : Hp} {s : Shared}, L2.Inv X [] σ H s → (∀ b ∈ fp, H b = none) → ∀ b ∈ fp, FpOk X [] H b)
    (W : Nat → Nat → Hp → Prop) (turn : ∀ i m H, W i m H → (J.stop i H ∧ Qe H) ∨ (J.go i H ∧ ∃ Nx : Hp → Prop, (∀ H', Nx H' → ∃ m', m' < m ∧ W (i + 1) m' H') ∧ ∀ x H', J.yld i H x H' → g x (L2.wipe σ vs) H' fun σ2 H2 => L2.wipe σ2 vs = L2.wipe σ vs ∧ tt σ2 H2 fun b H3 =>
      if b = true then te σ2 H3 fun y H4 => ∃ c, y = .bl c ∧ (c = stop → Qf H4) ∧ (c ≠ stop → Nx H4) else Nx H3)) :
    ∀ (m n i : Nat) (s0 s : Shared) (H : Hp), m < n → L2.Inv X [] (L2.wipe σ vs) H s → tn i s.heap → (∀ b ∈ fp, H b = none) → W i m H →
      Seg (model X.prog X.w) A (GxR X Qe) (GxY X stop Qf) n s0 (.compLoop (.GeneratorExp elt [⟨tg, iter, ifs, 0⟩] scope pos) 0 (.ref it) .none X.env)
        ((model X.prog X.w).den (.compLoop (.GeneratorExp elt [⟨tg, iter, ifs, 0⟩] scope pos) 0 (.ref it) .none X.env)) [] s := by
  intro m
  induction m using Nat.strongRecOn with
  | ind m ih =>
    intro n i s0 s H hmn I st hn w
    show Seg _ A _ _ n s0 _ ((compTurn (.GeneratorExp elt [⟨tg, iter, ifs, 0⟩] scope pos) 0 (.ref it) .none X.env).onRaise (leaving X.env)) [] s
    rw [compTurn_gen, Sem.onRaise_eq_wrap]
    refine seg_bw (wpAny_standAt ?_)
    rcases turn i m H w with ⟨hstop, hq⟩ | ⟨hgo, Nx, hNx, step⟩
    · refine seg_bw ?_
      rw [hA]
      refine wpAny_mono (T.done X rfl rfl rfl hc i [] s _ H (fun _ _ => False) I (hfp I hn) st hstop) ?_ fun _ _ z => z
      intro r s1 h1
      obtain ⟨rfl, I1⟩ := h1
      exact seg_end (.ok .next) ⟨rfl, [], _, H, I1, hq⟩
    · refine seg_bw ?_
      rw [hA]
      refine wpAny_mono (T.item X rfl rfl rfl hc i [] s _ H (fun _ _ => False) I (hfp I hn) st hgo) ?_ fun _ _ z => z
      intro r s1 h1
      obtain ⟨u, rfl, h2⟩ := h1
      refine seg_bw ?_
      rw [hA]
      refine wpAny_mono h2 ?_ fun _ _ z => z
      intro _ s2 h3
      obtain ⟨x, H2, I2, rx, y2, st2, n2⟩ := h3
      have I2' := I2.pinned (hfp I2 n2) (T.obj _ _ st2)
      refine seg_bw ?_
      rw [hA]
      have hpg := hg.run _ s2 _ H2 x u _ I2' rx (step x H2 y2)
      rw [hxe] at hpg
      refine wpAny_mono hpg ?_ fun _ _ z => z
      intro _ s3 h4
      obtain ⟨σ3, H3, I3, hw3, q3⟩ := h4
      refine seg_bw ?_
      rw [hA]
      have hpt := ht.run _ s3 σ3 H3 _ I3 q3
      rw [hxe] at hpt
      refine wpAny_mono hpt ?_ fun _ _ z => z
      intro c s4 h5
      obtain ⟨H4, I4, q4⟩ := h5
      -- the next turn
      have back : ∀ {H' : Hp} {s' : Shared} {σ' : L2.St}, L2.wipe σ' vs = L2.wipe σ vs → L2.Inv X ([] ++ pinsAt fp s2.heap) σ' H' s' → L2.Inv X [] (L2.wipe σ vs) H' s' ∧ tn (i + 1) s'.heap ∧ ∀ b ∈ fp, H' b = none := by
        intro H' s' σ' hw' I'
        have pin' : ∀ b ∈ fp, ∀ o, s2.heap.get? b = some o → s'.heap.get? b = some o ∧ H' b = none := fun b hb o e =>
          let z := I'.pin (b, o) (List.mem_append_right _ (List.mem_append_right _ (mem_pinsAt hb e)))
          ⟨z.1, z.2.1⟩
        have hl : (L2.wipe σ vs).length = σ'.length := by rw [← hw', wipe_length]
        refine ⟨(I'.unpinned (pins := [])).weak hl (fun j v e => ?_), T.keep _ _ _ st2 fun b hb o e => (pin' b hb o e).1, fun b hb => ?_⟩
        · rw [← hw'] at e
          exact (wipe_some e).1
        · obtain ⟨o, e, _⟩ := T.obj _ _ st2 b hb
          exact (pin' b hb o e).2
      cases c with
      | false =>
        rw [if_neg Bool.false_ne_true] at q4
        obtain ⟨m', hm, w'⟩ := hNx _ q4
        obtain ⟨b1, b2, b3⟩ := back hw3 I4
        exact seg_again rfl (ih m' hm n (i + 1) s0 s4 H4 (by omega) b1 b2 b3 w')
      | true =>
        rw [if_pos rfl] at q4
        simp only [if_true]
        have out : ∀ z, yieldOut X.env z = yieldValue z := fun z => by simp only [yieldOut, hco, Bool.false_eq_true, if_false]
        simp only [out]
        rw [Sem.bind_eq_wrap', Sem.bind_eq_wrap', Sem.wrap_wrap, Sem.wrap_wrap]
        refine seg_wrap ?_
        rw [hA]
        have hpe := he.run _ s4 σ3 H4 _ I4 q4
        rw [hxe] at hpe
        refine wpAny_mono hpe ?_ fun _ _ z => z.elim
        intro y s5 h6
        obtain ⟨yv, H5, I5, ry, d, htr, hf, hn5⟩ := h6
        cases n with
        | zero =>
          exact absurd hmn (Nat.not_lt_zero m)
        | succ n =>
          refine seg_at (seg_yield rfl rfl rfl ?_)
          subst htr
          refine ⟨_, σ3, H5, d, I5, ry, hf, fun hd s6 hl => ?_⟩
          obtain ⟨m', hm, w'⟩ := hNx _ (hn5 hd)
          obtain ⟨b1, b2, b3⟩ := back hw3 (Inv.later I5 hl)
          exact seg_again rfl (ih m' hm n (i + 1) s6 s6 H5 (by omega) b1 b2 b3 w')
end
end Mi
end
section
/-! Mi, part 23: all, any walk a generator. -/
namespace Mi
open PySem PySem.Spec PyProof.Rows L2 GenW
section
variable {X : Cx} {A : Around} {a : Addr} {g : Nat} {Qe Qf : Hp → Prop} {R : Result → Shared → Prop}
theorem later_set {pins : List (Addr × Obj)} {σ : L2.St} {H : Hp} {s : Shared} {x : GenState} (I : L2.Inv X pins σ H s) (hx : x.bare = true) : Later s (s.setGen g x) := ⟨rfl, allBare_setGen I.bare hx, fun _ _ e => e⟩
theorem all_loop (hh : A.handled = none) (hd : A.depth < recursionLimit) (hgen : ∀ {pins : List (Addr × Obj)} {σ : L2.St} {H : Hp} {s : Shared}, L2.Inv X pins σ H s → s.heap.IsGen a g)
    (hend : ∀ pins σ H s, L2.Inv X pins σ H s → Qe H → R (.ok (.ret (.bool true))) s) (hstop : ∀ pins σ H s, L2.Inv X pins σ H s → Qf H → R (.ok (.ret (.bool false))) s) :
    ∀ (n : Nat) (s : Shared), s.heap.IsGen a g → s.heap.NoLimit → (∃ gs, s.gens[g]? = some gs ∧ gs.Goes (model X.prog X.w) A.in1.in1 (GxR X Qe) (GxY X false Qf) n (.send .none) (s.setGen g .running)) →
      codeAny (model X.prog X.w) A (.builtin "all.loop" ⟨[.ref a], []⟩) R s := by
  intro n
  induction n with
  | zero =>
    intro s hg hl hgo
    obtain ⟨gs, hgs, hgo⟩ := hgo
    refine codeAny_builtin F.entry_all_loop ?_
    rw [Around.under_plainId F.plain_all_loop _]
    show wpAny _ A.in1 (pyNext (.ref a) >>= _) _ _ s
    refine wpAny_bind (wpAny_pyNext_genexpQ (A := A.in1) (P := fun _ _ s1 => ∃ pins σ H, L2.Inv X pins σ H s1 ∧ Qe H) hh hl hd hg hgs hgo ?_ ?_)
    · intro v s1 gs' hb hv
      obtain ⟨pins, σ, H, c, I, rfl, hf, hn⟩ := hv
      refine wpAny_bind (wpAny_holding (wpAny_truthy_bool ?_))
      refine wpAny_bind (wpAny_letGo ?_)
      cases c with
      | true => exact False.elim (hn (by decide) _ (later_set (g := g) (x := .finished) I rfl))
      | false =>
        simp only [Bool.false_eq_true, if_false]
        exact wpAny_bind (wpAny_rule (wpAny_pure (hstop pins σ H _ (Inv.later I (later_set I hb)) (hf rfl))))
    · intro s1 hp h' hk
      obtain ⟨pins, σ, H, I, hq⟩ := hp
      exact wpAny_bind (wpAny_rule (wpAny_pure (hend pins σ H _ (Inv.later (Inv.later I (later_set (g := g) (x := .finished) I rfl)) ⟨rfl, (Inv.later I (later_set (g := g) (x := .finished) I rfl)).bare, hk⟩) hq)))
  | succ n ih =>
    intro s hg hl hgo
    obtain ⟨gs, hgs, hgo⟩ := hgo
    have hgl : g < s.gens.size := (Array.getElem?_eq_some_iff.mp hgs).1
    refine codeAny_builtin F.entry_all_loop ?_
    rw [Around.under_plainId F.plain_all_loop _]
    show wpAny _ A.in1 (pyNext (.ref a) >>= _) _ _ s
    refine wpAny_bind (wpAny_gsz (n := g + 1) hgl (wpAny_pyNext_genexpQ (A := A.in1) (P := fun _ _ s1 => ∃ pins σ H, L2.Inv X pins σ H s1 ∧ Qe H) hh hl hd hg hgs hgo ?_ ?_))
    · intro v s1 gs' hb hv hsz
      obtain ⟨pins, σ, H, c, I, rfl, hf, hn⟩ := hv
      have hsz1 : g < s1.gens.size := by
        have q : (s1.setGen g gs').gens.size = s1.gens.size := setGen_size _ _ _
        have hsz' : g + 1 ≤ (s1.setGen g gs').gens.size := hsz
        omega
      refine wpAny_bind (wpAny_holding (wpAny_truthy_bool ?_))
      refine wpAny_bind (wpAny_letGo ?_)
      have L1 := later_set (g := g) I hb
      cases c with
      | true =>
        simp only [if_true]
        have I1 := Inv.later I L1
        refine wpAny_pure ⟨plainId_quiet F.plain_all_loop _, ih _ (hgen I1) I1.nolimit ⟨gs', setGen_at hsz1, ?_⟩⟩
        have L2' := later_set (g := g) (x := .running) I1 rfl
        exact hn (by decide) _ ⟨rfl, L2'.2.1, fun _ _ e => e⟩
      | false =>
        simp only [Bool.false_eq_true, if_false]
        exact wpAny_bind (wpAny_rule (wpAny_pure (hstop pins σ H _ (Inv.later I L1) (hf rfl))))
    · intro s1 hp h' hk hsz
      obtain ⟨pins, σ, H, I, hq⟩ := hp
      exact wpAny_bind (wpAny_rule (wpAny_pure (hend pins σ H _ (Inv.later (Inv.later I (later_set (g := g) (x := .finished) I rfl)) ⟨rfl, (Inv.later I (later_set (g := g) (x := .finished) I rfl)).bare, hk⟩) hq)))
end
end Mi
end
section
/-! Mi, part 24: the frame of a generator expression. -/
namespace Mi
open PySem PySem.Spec PyProof.Rows L2 GenW
/-- the context of a generator expression's frame -/
abbrev gxc (X : Cx) (A : Around) (s : Shared) (H : Hp) (cenv : Env) (fp : List Addr) (pn : List (Addr × Obj)) : Cx :=
  { X with A := A, s_0 := s, H_0 := H, env := cenv, outer := X.stack, stack := cenv :: X.stack, ex := fp, fn := fun _ => false, pn := pn, xe := fun _ _ => False }
section
variable {X : Cx} {pins : List (Addr × Obj)} {σ : L2.St} {H : Hp} {s sF : Shared}
theorem gen_start {A : Around} {scope : Scope} {own : List (Str × Nat)} {fp : List Addr} {pn : List (Addr × Obj)} {code : Value} {m0 : Str → Option Value} (I : L2.Inv X pins σ H s) (ok : BlkOk X.N X.env.scope scope own) (nc : ∀ y ∈ scope.names, y.2 ≠ .cell) (hN : X.N.Nodup)
    (hfp : ∀ b ∈ fp, FpOk X pins H b ∧ b < s.heap.objs.size) (hA : A.handled = none) (hAf : A.frames = some (genEnv scope (cloFrom X.env.cells scope.names []) s.heap.objs.size code builtinsNs X.env :: X.stack))
    (kp : ∀ b o, s.heap.get? b = some o → sF.heap.get? b = some o) (hos : sF.os = s.os) (hbare : AllBare sF.gens) (ns : sF.heap.Ns s.heap.objs.size m0) (hpn : ∀ p ∈ pn, sF.heap.get? p.1 = some p.2 ∧ s.heap.objs.size < p.1 ∧ ∀ v, p.2.data ≠ .cell v) :
    L2.Inv (gxc X A s H (genEnv scope (cloFrom X.env.cells scope.names []) s.heap.objs.size code builtinsNs X.env) fp pn) [] (L2.wipe σ (own.map (·.2))) H sF := by
  have free : ∀ y ∈ scope.names, y.2 = .free → ∃ c, X.env.cells.lookup y.1 = some c := fun y hy e => by
    rcases ok.free y hy e with k | k
    · exact I.ok.has _ (.inl k)
    · exact I.ok.has _ (.inr k)
  have cm : ∀ {y : Str} {c : Addr}, (y, c) ∈ cloFrom X.env.cells scope.names [] → X.env.cells.lookup y = some c ∧ c < s.heap.objs.size := by
    intro y c hm
    rcases cloFrom_mem hm with hm | ⟨h1, rfl⟩
    · cases hm
    · obtain ⟨c, hc⟩ := free _ h1 rfl
      rw [hc]
      obtain ⟨w, z⟩ := I.cell _ _ hc
      exact ⟨rfl, z.lt⟩
  have cl : ∀ {y : Str} {c : Addr}, (cloFrom X.env.cells scope.names []).lookup y = some c → X.env.cells.lookup y = some c ∧ c < s.heap.objs.size := fun e => cm (PySem.mem_of_lookup e)
  have look : ∀ {y : Str}, scope.names.lookup y = some .free → ∃ c, (cloFrom X.env.cells scope.names []).lookup y = some c ∧ X.env.cells.lookup y = some c := by
    intro y hl
    obtain ⟨c, e⟩ := mem_lookup (cloFrom_has (cells := X.env.cells) (acc := []) (PySem.mem_of_lookup hl))
    exact ⟨c, e, (cl e).1⟩
  have okG : (gxc X A s H (genEnv scope (cloFrom X.env.cells scope.names []) s.heap.objs.size code builtinsNs X.env) fp pn).Ok := by
    refine ⟨I.ok.mod, ok.kind, I.ok.glob, rfl, Nat.le_refl _, fun y z c e1 e2 => I.ok.inj y z c (cl e1).1 (cl e2).1, fun y hy => ?_, fun y c z e => ?_, fun _ => hA, hAf, .inr ⟨rfl, rfl⟩, fun b hb => ⟨?_, fun y c e z => ?_⟩, I.bs, Nat.le_trans I.ok.bsz I.sz, fun b o e hb => ?_, fun b hb z => ?_, I.stack, I.stkFree⟩
    · have hy : scope.names.lookup y = some .cell ∨ scope.names.lookup y = some .free := hy
      rcases hy with hy | hy
      · exact absurd rfl (nc _ (PySem.mem_of_lookup hy))
      · obtain ⟨c, h1, _⟩ := look hy
        exact ⟨c, h1⟩
    · cases z
    · exact Nat.ne_of_lt (hfp b hb).2
    · exact (hfp b hb).1.2.2.2.2.1 y c (cl e).1 z
    · rcases (hfp b hb).1.2.2.2.1 with z | z
      · exact I.ok.noex b o e z
      · exact absurd (Nat.lt_of_lt_of_le (Heap.lt_size e) (Nat.le_trans I.ok.bsz z)) (Nat.lt_irrefl _)
    · rcases List.mem_cons.mp (I.stkSub b z) with z | z
      · exact (hfp b hb).1.2.1 z
      · exact (hfp b hb).1.2.2.1 z
  refine ⟨okG, hos, hbare, Un.kept kp, ⟨m0, ns, fun i y av e1 e2 e3 => ?_⟩, fun y c e => ?_, I.hok.fresh (Nat.le_refl _), fun y c e => I.freeC y c (cl e).1, fun p hp => ?_, I.hok.kept kp, by rw [wipe_length]; exact I.len⟩
  · obtain ⟨e2, hne⟩ := wipe_some e2
    have e3 : Vis scope y := e3
    have hfr : scope.names.lookup y = some .free := by
      rcases e3 with e3 | e3 | e3
      · rcases ok.own _ (PySem.mem_of_lookup e3) (.inl rfl) with e' | e'
        · obtain ⟨p, hp, hpy⟩ := List.mem_map.mp e'
          have e4 := ok.ix p hp
          rw [show p.1 = y from hpy] at e4
          exact absurd (List.mem_map.mpr ⟨p, hp, nodup_ix hN e4 e1⟩) hne
        · exact absurd (List.mem_of_getElem? e1) e'
      · exact absurd rfl (nc _ (PySem.mem_of_lookup e3))
      · exact e3
    obtain ⟨m, hn, hl⟩ := I.loc
    have hvis : Vis X.env.scope y := (ok.free _ (PySem.mem_of_lookup hfr) rfl).elim (fun k => .inr (.inl k)) (fun k => .inr (.inr k))
    obtain ⟨w, r, q⟩ := hl i y av e1 e2 hvis
    obtain ⟨c, h1, h2⟩ := look hfr
    refine ⟨w, r, .inr ⟨.inr hfr, c, h1, ?_⟩⟩
    rcases q with ⟨k, _⟩ | ⟨_, c', e', z⟩
    · have k : X.env.scope.names.lookup y = some .local := k
      rcases ok.free _ (PySem.mem_of_lookup hfr) rfl with k' | k' <;> rw [show X.env.scope.names.lookup y = _ from k'] at k <;> cases k
    · rw [h2] at e'
      cases e'
      exact z.keeps kp
  · obtain ⟨w, z⟩ := I.cell y c (cl e).1
    exact ⟨w, z.keeps kp⟩
  · have hp : p ∈ pn := by simpa using hp
    obtain ⟨p1, p2, p3⟩ := hpn p hp
    refine ⟨p1, I.hok.fresh (Nat.le_of_lt p2), Nat.ne_of_gt p2, fun hb => ?_, p3⟩
    have hb : p.1 ∈ frs X.stack := hb
    rcases List.mem_cons.mp (I.stkSub _ hb) with z | z
    · rw [z] at p2
      exact absurd (Nat.lt_trans p2 I.lt) (Nat.lt_irrefl _)
    · exact absurd z (I.nofs (Nat.le_of_lt p2))
end
end Mi
end
section
/-! Mi, part 25: all(.. for .. in ..). -/
namespace Mi
open PySem PySem.Spec PyProof.Rows L2 GenW
theorem over_gen {A : Around} {elt : Expr} {gs : List Comprehension} {scope : Scope} {pos : Pos} {it acc : Value} {env : Env} : A.over (.compLoop (.GeneratorExp elt gs scope pos) 0 it acc env) [] = A.deeper env := by
  obtain ⟨hd, d, fr, gs, u⟩ := A
  simp [Around.over, Around.deeper, marksOver, frameCount, unitsOf, envsOf, guardsOf, pushEnvs, pushGuards, Code.envs, Code.env?, Code.isFrame, Code.guards, Code.isGuard, Code.weight, Code.frames, Code.isCreation, Code.isCaller, Code.cUnits]
theorem over_gen0 {A : Around} {elt : Expr} {gs : List Comprehension} {scope : Scope} {pos : Pos} {it acc : Value} {env : Env} : A.over (.compStart (.GeneratorExp elt gs scope pos) 0 it acc env) [] = A.deeper env := by
  obtain ⟨hd, d, fr, gs, u⟩ := A
  simp [Around.over, Around.deeper, marksOver, frameCount, unitsOf, envsOf, guardsOf, pushEnvs, pushGuards, Code.envs, Code.env?, Code.isFrame, Code.guards, Code.isGuard, Code.weight, Code.frames, Code.isCreation, Code.isCaller, Code.cUnits]
section
variable {X : Cx} {A : Around}
/-- the first waking: the loop -/
theorem seg_gstart {elt tg iter : Expr} {ifs : List Expr} {scope : Scope} {pos : Pos} {it : Addr} {n : Nat} {s0 s : Shared} {stop : Bool} {Qe Qf : Hp → Prop} (hself : ∀ (A' : Around) (Q : Value → Shared → Prop) (E : Value → Shared → Prop), Q (.ref it) s → wpAny (model X.prog X.w) A' (pyIter (.ref it)) Q E s)
    (loop : Seg (model X.prog X.w) A (GxR X Qe) (GxY X stop Qf) n s0 (.compLoop (.GeneratorExp elt [⟨tg, iter, ifs, 0⟩] scope pos) 0 (.ref it) .none X.env) ((model X.prog X.w).den (.compLoop (.GeneratorExp elt [⟨tg, iter, ifs, 0⟩] scope pos) 0 (.ref it) .none X.env)) [] s) :
    Seg (model X.prog X.w) A (GxR X Qe) (GxY X stop Qf) n s0 (.compStart (.GeneratorExp elt [⟨tg, iter, ifs, 0⟩] scope pos) 0 (.ref it) .none X.env) ((model X.prog X.w).den (.compStart (.GeneratorExp elt [⟨tg, iter, ifs, 0⟩] scope pos) 0 (.ref it) .none X.env)) [] s := by
  show Seg _ A _ _ n s0 _ ((compStart (.GeneratorExp elt [⟨tg, iter, ifs, 0⟩] scope pos) 0 (.ref it) .none X.env).onRaise (leaving X.env)) [] s
  unfold compStart
  rw [Sem.onRaise_eq_wrap]
  show Seg _ A _ _ n s0 _ ((ask >>= _).wrap _ _ _ _) [] s
  refine seg_bind_wrap (wpAny_askSetting ?_)
  split
  · exact seg_again rfl loop
  · refine seg_bind_wrap (wpAny_rule ?_)
    show Seg _ A _ _ n s0 _ ((standAt iter.pos >>= _).wrap _ _ _ _) [] s
    exact seg_bind_wrap (wpAny_standAt (seg_bind_wrap (hself _ _ _ (seg_again rfl loop))))
/-- all(elt for tg in iter if ..) -/
def tAllG (P : Addr) (wi : TI) (g : TG) (tt : TT) (te : TE) (vs : List Nat) : TE := fun σ H Q => wi σ H fun J H1 => GxR.TabG H1 P ∧ ∀ H2, GxR.Tabbed P H1 H2 → ∃ W : Nat → Nat → Hp → Prop, (∃ m, W 0 m H2) ∧ ∀ i m H, W i m H →
  (J.stop i H ∧ Q (.bl true) H) ∨ (J.go i H ∧ ∃ Nx : Hp → Prop, (∀ H', Nx H' → ∃ m', m' < m ∧ W (i + 1) m' H') ∧ ∀ x H', J.yld i H x H' → g x (L2.wipe σ vs) H' fun σ2 H2 => L2.wipe σ2 vs = L2.wipe σ vs ∧ tt σ2 H2 fun b H3 =>
    if b = true then te σ2 H3 fun y H4 => ∃ c, y = .bl c ∧ (c = false → Q (.bl false) H4) ∧ (c ≠ false → Nx H4) else Nx H3)
theorem pe_all {c P : Addr} {elt tg iter : Expr} {ifs : List Expr} {scope : Scope} {own : List (Str × Nat)} {p pos gpos : Pos} {wi : TI} {g : TG} {tt : TT} {te : TE} {k : Nat} (hr : Room k X.A) (hc : X.calm = true) (hN : X.N.Nodup) (hgl : Gl X "all") (hm : X.mg "all" = none) (hbt : bootBuiltins "all" = some (.builtin "all"))
    (TB : GxR.TabB X.base X.mg c P) (hcode : X.env.code = .ref c) (ok : BlkOk X.N X.env.scope scope own) (nc : ∀ y ∈ scope.names, y.2 ≠ .cell) (dot : scope.names.lookup (".0" : Str) = some NameKind.local) (hco : scope.isCoroutine = false) (hi : PI X tg iter wi)
    (hg : ∀ (s : Shared) (H : Hp) (code : Value) (fp : List Addr) (pn : List (Addr × Obj)), PG (gxc X (X.A.in1.in1.deeper (genEnv scope (cloFrom X.env.cells scope.names []) s.heap.objs.size code builtinsNs X.env)) s H (genEnv scope (cloFrom X.env.cells scope.names []) s.heap.objs.size code builtinsNs X.env) fp pn) tg g)
    (ht : ∀ (s : Shared) (H : Hp) (code : Value) (fp : List Addr) (pn : List (Addr × Obj)), PTs (gxc X (X.A.in1.in1.deeper (genEnv scope (cloFrom X.env.cells scope.names []) s.heap.objs.size code builtinsNs X.env)) s H (genEnv scope (cloFrom X.env.cells scope.names []) s.heap.objs.size code builtinsNs X.env) fp pn) ifs tt)
    (he : ∀ (s : Shared) (H : Hp) (code : Value) (fp : List Addr) (pn : List (Addr × Obj)), PE (gxc X (X.A.in1.in1.deeper (genEnv scope (cloFrom X.env.cells scope.names []) s.heap.objs.size code builtinsNs X.env)) s H (genEnv scope (cloFrom X.env.cells scope.names []) s.heap.objs.size code builtinsNs X.env) fp pn) elt te)
    (hs : ∀ v, genFold iter X.env v = pure v) (hst : starEach [.GeneratorExp elt [⟨tg, iter, ifs, 0⟩] scope gpos] X.env = (false, eval (.GeneratorExp elt [⟨tg, iter, ifs, 0⟩] scope gpos) X.env) :: starEach [] X.env) :
    PE X (.Call (.Name "all" p) [.GeneratorExp elt [⟨tg, iter, ifs, 0⟩] scope gpos] [] pos) (tAllG P wi g tt te (own.map (·.2))) := by
  refine ⟨fun pins s σ H Q I h => ?_⟩
  have hfree : ∀ y ∈ scope.names, y.2 = .free → ∃ c, X.env.cells.lookup y.1 = some c := fun y hy e => by
    rcases ok.free y hy e with z | z
    · exact I.ok.has _ (.inl z)
    · exact I.ok.has _ (.inr z)
  refine wpAny_Call_Name_kw (ld_blt I hgl hm hbt ?_)
  refine PyProof.Rows.callWith_builtin1 ?_ hst (by rfl)
  rw [hst]
  show wpAny _ _ (spliced ((false, eval (.GeneratorExp elt [⟨tg, iter, ifs, 0⟩] scope gpos) X.env) :: backTo pos (starEach [] X.env))) _ _ s
  refine Calls.spliced_cons (wpAny_mono (Q := fun v s5 => wpAny (model X.prog X.w) X.A (call (.builtin "all") [v]) (EP X pins σ Q) X.xe s5) ?_ (fun v s5 hv => Calls.spliced_nil hv) fun _ _ e => e)
  refine wpAny_GeneratorExp_make hco (closure_ok hfree) nc dot ok.kind (by have := hr.dp; omega) ?_ hs
  refine thn (hi.run pins s σ H _ I h) fun xv s1 h1 => thn h1 fun itv s2 h2 => ?_
  obtain ⟨it, fp, tn, J, H1, rfl, I1, T, st1, f1, ⟨ps, hP, htr⟩, q⟩ := h2
  refine ⟨I1.nolimit, ?_⟩
  have hPs : s2.heap.get? P = some { cls := .none, data := .fields ps } := I1.hok P _ hP
  have cd : PySem.W.CodeHd s2.heap c P := TB.code.keeps fun b u e => I1.bk b u e
  have cont : ∀ (code : Value) (h3 : Heap) (tk : Nat) (more : Array Value), Heap.ExtBut P s2.heap h3 → s2.heap.objs.size ≤ h3.objs.size → h3.get? P = some { cls := .none, data := .fields (ps ++ more) } → TriplesOk (ps ++ more).toList →
      wpAny (model X.prog X.w) X.A (builtinsFor X.env.globals X.env.builtins) (fun bi s4 => ∀ h', h'.Ns s4.heap.objs.size (fun y => if y = ".0" then some (.ref it) else none) → Heap.SameBut s4.heap.objs.size (s4.heap.push { cls := .type "frame", data := .dict #[] }) h' →
        wpAny (model X.prog X.w) X.A (call (.builtin "all") [.ref h'.objs.size]) (EP X pins σ Q) X.xe { s4 with
            gens := s4.gens.push (.fresh (.compStart (.GeneratorExp elt [⟨tg, iter, ifs, 0⟩] scope gpos) 0 (.ref it) .none (genEnv scope (cloFrom X.env.cells scope.names []) s4.heap.objs.size code bi X.env))),
            toks := s4.toks + 1 + 1 + 1,
            heap := h'.push { cls := .type "generator", data := .fields #[.int s4.gens.size 0, .str "<genexpr>" (s4.toks + 1), .str (X.env.qual ++ "<genexpr>") (s4.toks + 1 + 1)] } }) X.xe { s2 with heap := h3, toks := tk } := by
    intro code h3 tk more hx hsz hP3 ht3
    obtain ⟨bm, ob, e1, e2, e3, e4, e5, e6, e7, e8⟩ := TB.bm
    have keep3 : ∀ b u, b ≠ P → s2.heap.get? b = some u → h3.get? b = some u := fun b u hb e => hx b u hb e
    have J1 : L2.Inv X pins σ (upd H1 P (.tbl (ps ++ more))) { s2 with heap := h3, toks := tk } := GxR.inv_tab (g' := s2.gens) (d' := s2.drawn) I1 hP keep3 hP3 I1.bare
    refine wpAny_builtinsFor (m := X.mg) (by rw [I1.ok.glob]; exact (I1.mod.glob.keeps I1.bk).extBut hx TB.gP) e1 e2 (keep3 _ _ e4 (I1.bk _ _ e5)) e6 e7 e8 ?_
    intro h' hn' hs'
    generalize hs4 : ({ s2 with heap := h3, toks := tk } : Shared) = s4 at J1 hn' hs' ⊢
    have h4 : s4.heap = h3 := by rw [← hs4]
    generalize hcenv : genEnv scope (cloFrom X.env.cells scope.names []) s4.heap.objs.size code builtinsNs X.env = cenv
    generalize hgo : ({ cls := .type "generator", data := .fields #[.int s4.gens.size 0, .str "<genexpr>" (s4.toks + 1), .str (X.env.qual ++ "<genexpr>") (s4.toks + 1 + 1)] } : Obj) = go
    have goc : go.cls = .type "generator" := by rw [← hgo]
    have god : go.data = .fields #[.int s4.gens.size 0, .str "<genexpr>" (s4.toks + 1), .str (X.env.qual ++ "<genexpr>") (s4.toks + 1 + 1)] := by rw [← hgo]
    have gos : go.slots = #[] := by rw [← hgo]
    have gof : (h'.push go).get? h'.objs.size = some go := Heap.get?_push_size _ (by rw [← hgo]; rfl)
    have hCa : s4.heap.objs.size < h'.objs.size := hn'.lt
    have keep' : ∀ b o, s4.heap.get? b = some o → h'.get? b = some o := fun b o e => (hs'.2 b (Nat.ne_of_lt (Heap.lt_size e))).trans (Heap.get?_push_of_some _ e)
    generalize hsF : ({ s4 with gens := s4.gens.push (.fresh (.compStart (.GeneratorExp elt [⟨tg, iter, ifs, 0⟩] scope gpos) 0 (.ref it) .none cenv)), toks := s4.toks + 1 + 1 + 1, heap := h'.push go } : Shared) = sF
    have hF : sF.heap = h'.push go := by rw [← hsF]
    have gF : sF.gens = s4.gens.push (.fresh (.compStart (.GeneratorExp elt [⟨tg, iter, ifs, 0⟩] scope gpos) 0 (.ref it) .none cenv)) := by rw [← hsF]
    have oF : sF.os = s4.os := by rw [← hsF]
    have kF : ∀ b o, s4.heap.get? b = some o → sF.heap.get? b = some o := fun b o e => by rw [hF]; exact Heap.get?_push_of_some _ (keep' b o e)
    have bF : AllBare sF.gens := by rw [gF]; exact J1.bare.push rfl
    have isg : ∀ {hh : Heap}, hh.get? h'.objs.size = some go → hh.IsGen h'.objs.size s4.gens.size := fun e => ⟨go, _, _, e, goc, god, gos⟩
    have gens0 : sF.gens[s4.gens.size]? = some (.fresh (.compStart (.GeneratorExp elt [⟨tg, iter, ifs, 0⟩] scope gpos) 0 (.ref it) .none cenv)) := by rw [gF]; exact Array.getElem?_push_size ..
    have nP : ∀ b ∈ fp, b ≠ P := fun b hb e => by
      have z := (f1 b hb).1
      rw [e, hP] at z
      cases z
    have f4 : ∀ b ∈ fp, FpOk X pins (upd H1 P (.tbl (ps ++ more))) b ∧ b < s4.heap.objs.size := fun b hb => by
      obtain ⟨o, e, _⟩ := T.obj _ _ st1 b hb
      refine ⟨⟨by rw [upd_ne (nP b hb)]; exact (f1 b hb).1, (f1 b hb).2⟩, ?_⟩
      rw [h4]
      exact Nat.lt_of_lt_of_le (Heap.lt_size e) hsz
    obtain ⟨W, ⟨m0, w0⟩, turn⟩ := q (upd H1 P (.tbl (ps ++ more))) ⟨⟨ps ++ more, upd_same, ht3⟩, fun b hb => upd_ne hb⟩
    have stF : tn 0 sF.heap := T.keep _ _ _ (T.keep _ _ _ st1 fun b hb o e => keep3 b o (nP b hb) e) fun b hb o e => kF b o (by rw [h4]; exact e)
    have GI0 : L2.Inv (gxc X (X.A.in1.in1.deeper cenv) s4 (upd H1 P (.tbl (ps ++ more))) cenv fp [(h'.objs.size, go)]) [] (L2.wipe σ (own.map (·.2))) (upd H1 P (.tbl (ps ++ more))) (sF.setGen s4.gens.size .running) := by
      rw [← hcenv]
      refine gen_start (m0 := fun y => if y = ".0" then some (.ref it) else none) J1 ok nc hN f4 hr.hd ?_ kF oF (allBare_setGen bF rfl) ?_ ?_
      · exact Around.frames_deeper I.ok.frames
      · show Heap.Ns sF.heap _ _
        rw [hF]
        exact hn'.keeps fun b o e => Heap.get?_push_of_some _ e
      · intro p hp
        rw [List.mem_singleton.mp hp]
        refine ⟨by show sF.heap.get? _ = _; rw [hF]; exact gof, hCa, fun v e => ?_⟩
        have e' : go.data = .cell v := e
        rw [god] at e'
        cases e'
    have back : ∀ {pins' : List (Addr × Obj)} {σ' : L2.St} {H' : Hp} {s' : Shared}, L2.Inv (gxc X (X.A.in1.in1.deeper cenv) s4 (upd H1 P (.tbl (ps ++ more))) cenv fp [(h'.objs.size, go)]) pins' σ' H' s' → L2.Inv X pins σ H' s' := fun I6 =>
      J1.call' (ch := fp) I6.os I6.base I6.hok I6.bare fun b hb => ⟨(f4 b hb).1.2.2.2.1, (f4 b hb).1.2.1, (f4 b hb).1.2.2.2.2.1, (f4 b hb).1.2.2.2.2.2⟩
    refine call_function_tree F.kind_all F.plain_all F.entry_all (F.args_all1 _) ?_
    unfold Builtin.«all»
    refine wpAny_bind (m := oneArg "all" _) (wpAny_pure ?_)
    have g0 : sF.heap.IsGen h'.objs.size s4.gens.size := isg (by rw [hF]; exact gof)
    refine wpAny_bind (wpAny_pyIter_gen g0 ?_)
    refine wpAny_pure ⟨plainId_quiet F.plain_all_loop _, ?_⟩
    refine all_loop (X := gxc X (X.A.in1.in1.deeper cenv) s4 (upd H1 P (.tbl (ps ++ more))) cenv fp [(h'.objs.size, go)]) (A := X.A) (g := s4.gens.size) (Qe := Q (.bl true)) (Qf := Q (.bl false)) hr.hd (by have := hr.dp; omega) (fun I6 => isg (I6.pin (h'.objs.size, go) (List.mem_append_left _ (List.mem_singleton.mpr rfl))).1)
      (fun pins' σ' H' s' I6 hq => ?_) (fun pins' σ' H' s' I6 hq => ?_) (m0 + 1) sF g0 GI0.nolimit ⟨_, gens0, rfl, ?_⟩
    · exact ⟨.bl true, H', back I6, rfl, hq⟩
    · exact ⟨.bl false, H', back I6, rfl, hq⟩
    · refine seg_gstart (X := gxc X (X.A.in1.in1.deeper cenv) s4 (upd H1 P (.tbl (ps ++ more))) cenv fp [(h'.objs.size, go)]) (fun A' Q' E' hQ' => T.self A' 0 _ _ _ stF hQ') ?_
      refine seg_gloop (X := gxc X (X.A.in1.in1.deeper cenv) s4 (upd H1 P (.tbl (ps ++ more))) cenv fp [(h'.objs.size, go)]) (vs := own.map (·.2)) (σ := σ) over_gen hc rfl (by rw [← hcenv]; exact hco) T (by rw [← hcenv]; exact hg _ _ _ _ _) (by rw [← hcenv]; exact ht _ _ _ _ _) (by rw [← hcenv]; exact he _ _ _ _ _)
        (fun I' hn b hb => ⟨hn b hb, (I'.ok.exf b hb).1, I'.ok.exfs b hb, .inl hb, fun x c e => (I'.ok.exf b hb).2 x c e, fun p hp => ?_⟩) W turn m0 (m0 + 1) 0 _ _ _ (Nat.lt_succ_self _) GI0 stF (fun b hb => (f4 b hb).1.1) w0
      have hp' : p = (h'.objs.size, go) := by simpa using hp
      rw [hp']
      exact Nat.ne_of_gt (Nat.lt_trans (f4 b hb).2 hCa)
  cases hf : codeAmong gpos ps.toList with
  | none =>
    refine wpAny_genexprCodeX hcode (cd.code hPs htr) (cd.tab hPs) hf fun c' h' tk hx hge hlt hco' _ htab' _ => ?_
    obtain ⟨o1, vs, f1, tf, fl, tg, inF, tx, tt, op, _, _, _, _, _, _, _, _, _, htr', _⟩ := hco'
    exact cont _ h' tk _ hx (Nat.le_trans hge (Nat.le_of_lt hlt)) htab'.2 htr'
  | some cv =>
    refine wpAny_genexprCode_hit hcode (cd.code hPs htr) hf ?_
    exact cont cv s2.heap s2.toks #[] (Heap.ExtBut.refl _ _) (Nat.le_refl _) (by simpa using hPs) (by simpa using htr)
end
end Mi
end
section
/-! Mi, part 26: all(..) of the compact text. -/
namespace Mi
open PySem PySem.Spec PyProof.Rows L2
theorem allL_X {asg : D → Sg → Option Sg} {test el : Sg → Store → Res Bool} {σ : Sg} {xs : List D} : ∀ (j k : Nat) (st : Store), xs.length = k + j → allL asg test el σ (xs.drop k) st = allX asg test el σ (fun _ => some xs) (j + 1) k st
  | 0, k, st, h => by
    have h1 : xs.drop k = [] := List.drop_eq_nil_of_le (by omega)
    have h2 : xs[k]? = none := List.getElem?_eq_none (by omega)
    rw [h1]
    unfold allX
    simp only [h2]
    unfold allL
    rfl
  | j + 1, k, st, h => by
    have hk : k < xs.length := by omega
    have h1 : xs.drop k = xs[k] :: xs.drop (k + 1) := List.drop_eq_getElem_cons hk
    have h2 : xs[k]? = some xs[k] := List.getElem?_eq_getElem hk
    have ih : ∀ st, allL asg test el σ (xs.drop (k + 1)) st = allX asg test el σ (fun _ => some xs) (j + 1) (k + 1) st := fun st => allL_X j (k + 1) st (by omega)
    rw [h1]
    unfold allX
    simp only [h2]
    unfold allL
    cases asg xs[k] σ with
    | none => rfl
    | some σ1 =>
      simp only
      cases test σ1 st with
      | bad => rfl
      | ok c st1 =>
        cases c with
        | false => exact ih st1
        | true =>
          simp only
          cases el σ1 st1 with
          | bad => rfl
          | ok y st2 =>
            cases y with
            | false => rfl
            | true => exact ih st2
theorem allW_X {asg : D → Sg → Option Sg} {test el : Sg → Store → Res Bool} {σ : Sg} {w : Wk} {st : Store} : allW asg test el σ w st = .bad ∨ ∃ fu, allW asg test el σ w st = allX asg test el σ (wkNow w) fu 0 st := by
  cases w with
  | items xs => exact .inr ⟨xs.length + 1, allL_X xs.length 0 st (by omega)⟩
  | loc q => exact .inr ⟨_, rfl⟩
  | enumL q => exact .inr ⟨_, rfl⟩
  | bad => exact .inl rfl
theorem allX_step {asg : D → Sg → Option Sg} {test el : Sg → Store → Res Bool} {σ σ1 : Sg} {fu k : Nat} {now : Store → Option (List D)} {st : Store} {xs : List D} {x : D} (h1 : now st = some xs) (h2 : xs[k]? = some x) (h3 : asg x σ = some σ1) :
    allX asg test el σ now (fu + 1) k st = (test σ1 st).bind fun c st1 => match c with
      | false => allX asg test el σ now fu (k + 1) st1
      | true => (el σ1 st1).bind fun y st2 => match y with
        | false => .ok false st2
        | true => allX asg test el σ now fu (k + 1) st2 := by
  conv => lhs; unfold allX
  simp only [h1, h2, h3]
  cases test σ1 st with
  | bad => rfl
  | ok c st1 =>
    cases c with
    | false => rfl
    | true =>
      show (match el σ1 st1 with
        | .bad => .bad
        | .ok false st2 => .ok false st2
        | .ok true st2 => allX asg test el σ now fu (k + 1) st2) = (el σ1 st1).bind fun y st2 => match y with
          | false => .ok false st2
          | true => allX asg test el σ now fu (k + 1) st2
      cases el σ1 st1 with
      | bad => rfl
      | ok y st2 => cases y <;> rfl
section
variable {K : PySem.W.Frag} {bs : Bs} {m : Nat → Addr} {st : Store} {H H2 : Hp} {P : Addr} {ti : Nat}
/-- the table has grown -/
theorem tab_grow (W : Wf K bs m st H) (hP : bs.ts[ti]? = some P) (hT : GxR.Tabbed P H H2) : Stp m st.length H m st.length H2 ∧ Wf K bs m st H2 := by
  obtain ⟨h1, h2⟩ := W.tb ti P hP
  have hlt : ti < st.length := (List.getElem?_eq_some_iff.mp h1).1
  obtain ⟨hg, hk⟩ := hT
  have S : Stp m st.length H m st.length H2 := by
    refine ⟨Nat.le_refl _, fun _ _ => rfl, fun p u e _ o => ?_, fun p kvs e o => ?_, fun i a c => absurd c (Nat.not_lt.mpr a), fun p e => ?_⟩
    · rw [hk p fun z => o ti hlt (h2.trans z.symm)]
      exact e
    · have hne : p ≠ P := fun z => o ti hlt (h2.trans z.symm)
      rcases e with e | ⟨od, e⟩
      · exact .inl (by rw [hk p hne]; exact e)
      · exact .inr ⟨od, by rw [hk p hne]; exact e⟩
    · by_cases z : p = P
      · obtain ⟨ps, e2, _⟩ := hg
        rw [z, e2]
        exact fun z => by cases z
      · rw [hk p z]
        exact e
  refine ⟨S, W.inj, fun i o e => ?_, W.cl, W.le, W.tb, W.tl⟩
  by_cases z : m i = P
  · have hi : i < st.length := (List.getElem?_eq_some_iff.mp e).1
    have ei : i = ti := W.inj i ti hi hlt (z.trans h2.symm)
    subst ei
    rw [h1] at e
    cases e
    show GxR.TabG H2 (m i)
    rw [z]
    exact hg
  · exact (W.ob i o e).step S (hk _ z)
end
section
variable {X : Cx} {bs : Bs} {R : Rt} {b : Nat} {P : Addr}
theorem all_reads {ti : Nat} {ik : IK} {it ts e : E} {t : T} {vs : List Nat} {own : List (Str × Nat)} (hP : bs.ts[ti]? = some P) (hvs : own.map (·.2) = vs) (hsub : ∀ i ∈ tnm t, i ∈ vs) : ∀ σ H Q, tE X.K bs (ev R b (.all1 ti ik it t ts e vs)) σ H Q →
    tAllG P (tX X.K bs (rW X.K bs) (evI R b ik it)) (tG X.K (asgT t) (tnm t)) (tT X.K bs (evT R b ts)) (tE X.K bs (ev R b e)) (own.map (·.2)) σ H Q := by
  intro σ H Q hh
  obtain ⟨m, σd, st, W, r, q⟩ := hh
  have q' : Ok X.K bs (RD X.K) m st.length H Q ((evI R b ik it σd st).bind fun w st1 => (allW (asgT t) (fun σ st => evT R b ts σ st) (fun σ st => (ev R b e σ st).bind fun d st1 => asB d st1) (wipeD σd vs) w st1).bind fun c st2 => .ok (.bl c) st2) := by unfold ev at q; exact q
  rw [hvs]
  refine ⟨m, σd, st, W, r, (q'.bind (rel := rW X.K bs)).mono ?_⟩
  intro J H1 h1
  obtain ⟨m1, st1, w, s1, W1, hw, q1⟩ := h1
  have r1 := r.step s1
  obtain ⟨ht1, ht2⟩ := W1.tb ti P hP
  refine ⟨?_, fun H2 hT => ?_⟩
  · have z := W1.ob ti _ ht1
    rw [ht2] at z
    exact z
  obtain ⟨S0, W0⟩ := tab_grow W1 hP hT
  rcases allW_X (asg := asgT t) (test := fun σ st => evT R b ts σ st) (el := fun σ st => (ev R b e σ st).bind fun d st1 => asB d st1) (σ := wipeD σd vs) (w := w) (st := st1) with hx | ⟨fu0, hx⟩
  · rw [hx] at q1
    exact q1.elim
  rw [hx] at q1
  have q2 : Ok X.K bs rB m1 st1.length H2 (fun c H' => Q (.bl c) H') (allX (asgT t) (fun σ st => evT R b ts σ st) (fun σ st => (ev R b e σ st).bind fun d st1 => asB d st1) (wipeD σd vs) (wkNow w) fu0 0 st1) := by
    refine ((q1.step S0).bind (rel := rB)).mono ?_
    intro c H3 h3
    obtain ⟨m3, st3, c', s3, W3, hcc, q3⟩ := h3
    have hcc' : c = c' := hcc
    subst hcc'
    exact q3.at W3 (by unfold RD; rfl)
  refine ⟨fun i fu H => ∃ m' st', Stp m1 st1.length H1 m' st'.length H ∧ Wf X.K bs m' st' H ∧ Ok X.K bs rB m' st'.length H (fun c H' => Q (.bl c) H') (allX (asgT t) (fun σ st => evT R b ts σ st) (fun σ st => (ev R b e σ st).bind fun d st1 => asB d st1) (wipeD σd vs) (wkNow w) fu i st'), ⟨fu0, m1, st1, S0, W0, q2⟩, ?_⟩
  rintro i fu H3 ⟨m2, st2, S2, W2, q3⟩
  cases fu with
  | zero => exact q3.elim
  | succ fu =>
    cases hn : wkNow w st2 with
    | none =>
      unfold allX at q3
      simp only [hn] at q3
      exact q3.elim
    | some ys =>
      obtain ⟨hst, hgo⟩ := hw m2 st2 H3 ys S2 W2 hn i
      cases hy : ys[i]? with
      | none =>
        unfold allX at q3
        simp only [hn, hy] at q3
        exact .inl ⟨hst hy, Ok.at (v := true) q3 W2 rfl⟩
      | some x =>
        obtain ⟨go, hyl⟩ := hgo x hy
        cases ha : asgT t x (wipeD σd vs) with
        | none =>
          unfold allX at q3
          simp only [hn, hy, ha] at q3
          exact q3.elim
        | some σ1 =>
          rw [allX_step hn hy ha] at q3
          refine .inr ⟨go, _, fun H' hN => ⟨fu, Nat.lt_succ_self _, hN⟩, ?_⟩
          intro xv H4 yl
          obtain ⟨S3, W3, rx⟩ := hyl xv H4 yl
          have r3 := (r1.step (S2.trans S3)).wipe vs
          refine ⟨m2, st2.length, wipeD σd vs, x, σ1, r3, rx, ha, fun σ' r' lk => ⟨lk.wipe hsub, m2, σ1, st2, W3, r', ((q3.step S3).bind (rel := rB)).mono ?_⟩⟩
          intro c H5 h5
          obtain ⟨m4, st4, c', S4, W4, hcc, q4⟩ := h5
          have hcc' : c = c' := hcc
          subst hcc'
          cases c with
          | false =>
            rw [if_neg Bool.false_ne_true]
            exact ⟨m4, st4, (S2.trans S3).trans S4, W4, q4⟩
          | true =>
            rw [if_pos rfl]
            have q4' : Ok X.K bs rB m4 st4.length H5 (fun c H' => Q (.bl c) H') ((ev R b e σ1 st4).bind fun d st5 => (asB d st5).bind fun y st2 => match y with
              | false => .ok false st2
              | true => allX (asgT t) (fun σ st => evT R b ts σ st) (fun σ st => (ev R b e σ st).bind fun d st1 => asB d st1) (wipeD σd vs) (wkNow w) fu (i + 1) st2) := by
              cases hv : ev R b e σ1 st4 with
              | bad => simp only [hv] at q4; exact q4
              | ok d st5 => simp only [hv] at q4; exact q4
            refine ⟨m4, σ1, st4, W4, r'.step S4, (q4'.bind (rel := RD X.K)).mono ?_⟩
            intro y H6 h6
            obtain ⟨m5, st5, d5, S5, W5, r5, q5⟩ := h6
            unfold asB at q5
            split at q5
            · rename_i c
              unfold RD at r5
              refine ⟨c, r5, fun hc => ?_, fun hc => ?_⟩
              · subst hc
                exact Ok.at (v := false) q5 W5 rfl
              · cases c with
                | false => exact absurd rfl hc
                | true => exact ⟨m5, st5, ((S2.trans S3).trans S4).trans S5, W5, q5⟩
            · exact q5.elim
end
end Mi
end
section
/-! Mi, part 27: zip(a, b, strict=True) of lists and tuples. -/
namespace Mi
open PySem PySem.Spec PyProof.Rows L2

/-- an iterator at k over what stands at l: a list (true), a tuple -/
def Src (h : Heap) (c : Bool) (it l : Addr) (k : Nat) (xs : Array Value) : Prop := match c with
  | true => h.IsListIter it l k ∧ h.IsList l xs
  | false => h.IsTupleIter it l k ∧ h.IsTuple l xs
theorem Src.mv {h h' : Heap} {c : Bool} {it l : Addr} {k : Nat} {xs : Array Value} (q : Src h c it l k xs) (e1 : ∀ o, h.get? it = some o → h'.get? it = some o) (e2 : ∀ o, h.get? l = some o → h'.get? l = some o) : Src h' c it l k xs := by
  cases c with
  | true => exact ⟨Heap.IsListIter.at (And.left q) e1, Heap.IsList.at (And.right q) e2⟩
  | false => exact ⟨Heap.IsTupleIter.at (And.left q) e1, Heap.IsTuple.at (And.right q) e2⟩
theorem Src.over {h h' : Heap} {c : Bool} {it l d : Addr} {k : Nat} {xs : Array Value} (q : Src h c it l k xs) (e : Heap.ExtBut d h h') (n1 : it ≠ d) (n2 : l ≠ d) : Src h' c it l k xs := q.mv (fun o => e _ o n1) fun o => e _ o n2
section
variable {prog : Program} {w : World} {A : Around} {E : Value → Shared → Prop} {s : Shared} {c1 c2 : Bool}
theorem noe_item {c : Bool} {it l : Addr} {k : Nat} {xs : Array Value} {x : Value} {Q : Option Value → Shared → Prop} (hit : Src s.heap c it l k xs) (hne : l ≠ it) (hx : xs[k]? = some x)
    (hQ : ∀ h', Src h' c it l (k + 1) xs → Heap.SameBut it s.heap h' → Q (some x) { s with heap := h' }) : wpAny (model prog w) A (Builtin.SmallTypes.nextOrEnd (.ref it)) Q E s := by
  unfold Builtin.SmallTypes.nextOrEnd
  refine wpAny_bind (wpAny_attempt ?_)
  cases c with
  | true =>
    obtain ⟨q1, q2⟩ := hit
    exact wpAny_nextOf_list_item q1 q2 hx fun h' r e => wpAny_pure (hQ h' ⟨r, q2.extBut e.extBut hne⟩ e)
  | false =>
    obtain ⟨q1, q2⟩ := hit
    exact RZ.nextOf_tuple_item q1 q2 hx fun h' r e => wpAny_pure (hQ h' ⟨r, q2.extBut e.extBut hne⟩ e)
theorem noe_end {c : Bool} {it l : Addr} {k : Nat} {xs : Array Value} {Q : Option Value → Shared → Prop} (hh : A.handled = none) (hit : Src s.heap c it l k xs) (hx : xs[k]? = none)
    (hQ : ∀ h', Heap.ExtBut it s.heap h' → Q none { s with heap := h' }) : wpAny (model prog w) A (Builtin.SmallTypes.nextOrEnd (.ref it)) Q E s := by
  unfold Builtin.SmallTypes.nextOrEnd
  refine wpAny_bind (wpAny_attempt ?_)
  cases c with
  | true =>
    obtain ⟨q1, q2⟩ := hit
    refine wpAny_nextOf_list_end hh q1 q2 hx fun h' e r ho => ?_
    obtain ⟨o, h1, h2⟩ := ho
    exact wpAny_bind (wpAny_isInstance (T := "StopIteration") (b := true) ⟨o, h1, h2⟩ isSubtype_stop (wpAny_pure (hQ h' r)))
  | false =>
    obtain ⟨q1, q2⟩ := hit
    refine RZ.nextOf_tuple_end hh q1 q2 hx fun h' e r ho => ?_
    obtain ⟨o, h1, h2⟩ := ho
    exact wpAny_bind (wpAny_isInstance (T := "StopIteration") (b := true) ⟨o, h1, h2⟩ isSubtype_stop (wpAny_pure (hQ h' r)))
/-- a strict zip's own object -/
abbrev szo (TI TO : Addr) (f0 : Value) : Obj := { cls := .type "zip", dict := none, data := .fields #[f0, .bool false, .bool true, .ref TI, .ref TO], slots := #[] }
theorem sz_step {z TI TO i1 i2 l1 l2 : Addr} {k : Nat} {xs ys : Array Value} {x y a b : Value} {Q : Value → Shared → Prop} (D : ZipApart z TI TO i1 i2 l1 l2)
    (hz : s.heap.get? z = some (szo TI TO .none)) (hTI : IsPair s.heap TI (.ref i1) (.ref i2)) (hTO : IsPair s.heap TO a b) (h1 : Src s.heap c1 i1 l1 k xs) (h2 : Src s.heap c2 i2 l2 k ys) (hx : xs[k]? = some x) (hy : ys[k]? = some y)
    (hQ : ∀ h', h'.get? z = some (szo TI TO (rawInt s.heap.objs.size)) → IsPair h' TO x y → Src h' c1 i1 l1 (k + 1) xs → Src h' c2 i2 l2 (k + 1) ys → IsPair h' s.heap.objs.size x y →
      (∀ c o, c ≠ z → c ≠ TO → c ≠ i1 → c ≠ i2 → s.heap.get? c = some o → h'.get? c = some o) → Q (.ref s.heap.objs.size) { s with heap := h' }) :
    wpAny (model prog w) A (Builtin.«zip.__next__» ⟨[.ref z], []⟩) (fun fin s' => ∃ v, fin = .done (.ret v) ∧ Q v s') E s := by
  show wpAny _ _ (field (.ref z) 2 >>= _) _ _ _
  refine wpAny_bind (wpAny_field hz rfl (x := .bool true) rfl ?_)
  show wpAny _ _ (field (.ref z) 3 >>= _) _ _ _
  refine wpAny_bind (wpAny_field hz rfl (x := .ref TI) rfl (wpAny_bind (wpAny_seqItems hTI rfl ?_)))
  show wpAny _ _ (Builtin.SmallTypes.ownedTupleIsFree (.ref z) >>= _) _ _ _
  refine wpAny_bind ?_
  unfold Builtin.SmallTypes.ownedTupleIsFree
  refine wpAny_bind (wpAny_field hz rfl (x := .none) rfl (wpAny_pure ?_))
  simp only [if_true]
  refine wpAny_bind (wpAny_rule (wpAny_bind (wpAny_field hz rfl (x := .ref TO) rfl ?_)))
  refine wpAny_bind (wpAny_setField_rec hz (by simp) fun m1 z1 e1 => ?_)
  replace z1 : m1.get? z = some (szo TI TO .ellipsis) := z1
  refine wpAny_bind ?_
  simp only [List.zipIdx_cons, List.zipIdx_nil, List.forIn_cons, List.forIn_nil]
  refine wpAny_bind (wpAny_bind (wpAny_onRaise ?_))
  show wpAny _ _ (Builtin.SmallTypes.nextOrEnd (.ref i1)) _ _ _
  refine noe_item (h1.over e1.extBut D.i1z D.l1z) D.l1i1 hx fun m2 r2 e2 => ?_
  have t2 : IsPair m2 TO a b := e2.extBut _ _ D.TOi1 (e1.extBut _ _ D.TOz hTO)
  refine wpAny_bind (wpAny_seqItems t2 rfl (wpAny_bind (wpAny_updateSeq_pair t2 fun m3 t3 e3 => ?_)))
  replace t3 : IsPair m3 TO x b := t3
  refine wpAny_bind (wpAny_letGo (wpAny_pure ?_))
  refine wpAny_bind (wpAny_bind (wpAny_onRaise ?_))
  show wpAny _ _ (Builtin.SmallTypes.nextOrEnd (.ref i2)) _ _ _
  refine noe_item (((h2.over e1.extBut D.i2z D.l2z).over e2.extBut D.i12.symm D.l2i1).over e3.extBut D.TOi2.symm D.l2TO) D.l2i2 hy fun m4 r4 e4 => ?_
  have t4 : IsPair m4 TO x b := e4.extBut _ _ D.TOi2 t3
  refine wpAny_bind (wpAny_seqItems t4 rfl (wpAny_bind (wpAny_updateSeq_pair t4 fun m5 t5 e5 => ?_)))
  replace t5 : IsPair m5 TO x y := t5
  refine wpAny_bind (wpAny_letGo (wpAny_pure (wpAny_pure ?_)))
  refine wpAny_bind (wpAny_seqItems t5 rfl (wpAny_bind (wpAny_newTuple ?_)))
  have hsz : m5.objs.size = s.heap.objs.size := by rw [e5.1, e4.1, e3.1, e2.1, e1.1]
  have z5 : m5.get? z = some (szo TI TO .ellipsis) := e5.extBut _ _ D.TOz.symm (e4.extBut _ _ D.i2z.symm (e3.extBut _ _ D.TOz.symm (e2.extBut _ _ D.i1z.symm z1)))
  have kp : ∀ c o, c ≠ z → c ≠ TO → c ≠ i1 → c ≠ i2 → s.heap.get? c = some o → m5.get? c = some o := fun c o c1 c2 c3 c4 e =>
    e5.extBut _ _ c2 (e4.extBut _ _ c4 (e3.extBut _ _ c2 (e2.extBut _ _ c3 (e1.extBut _ _ c1 e))))
  have s1 : Src m5 c1 i1 l1 (k + 1) xs := ((r2.over e3.extBut D.TOi1.symm D.l1TO).over e4.extBut D.i12 D.l1i2).over e5.extBut D.TOi1.symm D.l1TO
  have s2 : Src m5 c2 i2 l2 (k + 1) ys := r4.over e5.extBut D.TOi2.symm D.l2TO
  have zl : z < m5.objs.size := Heap.lt_size z5
  show wpAny _ _ (Builtin.SmallTypes.ownedTupleHandOut (.ref z) (.ref m5.objs.size) >>= _) _ _ _
  refine wpAny_bind ?_
  unfold Builtin.SmallTypes.ownedTupleHandOut
  have z6 : (m5.push { cls := .type "tuple", data := .seq #[x, y] }).get? z = some (szo TI TO .ellipsis) := Heap.get?_push_of_some _ z5
  refine wpAny_bind (wpAny_setField_rec z6 (by simp) fun m7 z7 e7 => ?_)
  replace z7 : m7.get? z = some (szo TI TO (rawInt m5.objs.size)) := z7
  refine wpAny_setField_rec z7 (by simp) fun m8 z8 e8 => ?_
  replace z8 : m8.get? z = some (szo TI TO (rawInt m5.objs.size)) := z8
  have up : ∀ c o, c ≠ z → m5.get? c = some o → m8.get? c = some o := fun c o c1 e => e8.extBut _ _ c1 (e7.extBut _ _ c1 (Heap.get?_push_of_some _ e))
  have t8 : IsPair m8 m5.objs.size x y := e8.extBut _ _ (Nat.ne_of_gt zl) (e7.extBut _ _ (Nat.ne_of_gt zl) (Heap.get?_push_size _ rfl))
  rw [hsz] at z8 t8
  refine wpAny_pure ⟨_, rfl, ?_⟩
  show Q (.ref m5.objs.size) _
  rw [hsz]
  exact hQ m8 z8 (up _ _ D.TOz t5) (s1.mv (fun o e => up _ o D.i1z e) fun o e => up _ o D.l1z e) (s2.mv (fun o e => up _ o D.i2z e) fun o e => up _ o D.l2z e) t8 fun c o c1 c2 c3 c4 e => up c o c1 (kp c o c1 c2 c3 c4 e)
theorem sz_stop {z TI TO i1 i2 l1 l2 : Addr} {k : Nat} {xs ys : Array Value} {a b : Value} {Q : PySem.Fin → Shared → Prop} (hh : A.handled = none) (D : ZipApart z TI TO i1 i2 l1 l2)
    (hz : s.heap.get? z = some (szo TI TO .none)) (hTI : IsPair s.heap TI (.ref i1) (.ref i2)) (hTO : IsPair s.heap TO a b) (h1 : Src s.heap c1 i1 l1 k xs) (h2 : Src s.heap c2 i2 l2 k ys) (hx : xs[k]? = none) (hy : ys[k]? = none)
    (hE : ∀ h' e, (∀ c o, c ≠ z → c ≠ TO → c ≠ i1 → c ≠ i2 → s.heap.get? c = some o → h'.get? c = some o) → (∃ o, h'.get? e = some o ∧ o.cls = .type "StopIteration") → E (.ref e) { s with heap := h' }) :
    wpAny (model prog w) A (Builtin.«zip.__next__» ⟨[.ref z], []⟩) Q E s := by
  show wpAny _ _ (field (.ref z) 2 >>= _) _ _ _
  refine wpAny_bind (wpAny_field hz rfl (x := .bool true) rfl ?_)
  show wpAny _ _ (field (.ref z) 3 >>= _) _ _ _
  refine wpAny_bind (wpAny_field hz rfl (x := .ref TI) rfl (wpAny_bind (wpAny_seqItems hTI rfl ?_)))
  show wpAny _ _ (Builtin.SmallTypes.ownedTupleIsFree (.ref z) >>= _) _ _ _
  refine wpAny_bind ?_
  unfold Builtin.SmallTypes.ownedTupleIsFree
  refine wpAny_bind (wpAny_field hz rfl (x := .none) rfl (wpAny_pure ?_))
  simp only [if_true]
  refine wpAny_bind (wpAny_rule (wpAny_bind (wpAny_field hz rfl (x := .ref TO) rfl ?_)))
  refine wpAny_bind (wpAny_setField_rec hz (by simp) fun m1 z1 e1 => ?_)
  replace z1 : m1.get? z = some (szo TI TO .ellipsis) := z1
  refine wpAny_bind ?_
  simp only [List.zipIdx_cons, List.zipIdx_nil, List.forIn_cons, List.forIn_nil]
  refine wpAny_bind (wpAny_bind (wpAny_onRaise ?_))
  show wpAny _ _ (Builtin.SmallTypes.nextOrEnd (.ref i1)) _ _ _
  refine noe_end hh (h1.over e1.extBut D.i1z D.l1z) hx fun m2 e2 => ?_
  have z2 : m2.get? z = some (szo TI TO .ellipsis) := e2 _ _ D.i1z.symm z1
  refine wpAny_bind (wpAny_setField_rec z2 (by simp) fun m3 z3 e3 => ?_)
  refine wpAny_bind (wpAny_bind ?_)
  simp only [List.drop_succ_cons, List.drop_zero, List.zipIdx_cons, List.zipIdx_nil, List.forIn_cons, List.forIn_nil]
  refine wpAny_bind (wpAny_bind (noe_end hh (((h2.over e1.extBut D.i2z D.l2z).over e2 D.i12.symm D.l2i1).over e3.extBut D.i2z D.l2z) hy fun m4 e4 => ?_))
  simp only [Option.isSome_none, Bool.false_eq_true, if_false]
  refine wpAny_pure (wpAny_pure (wpAny_bind (wpAny_rule ?_)))
  show wpAny _ _ (newExc (.type "StopIteration") [] >>= _) _ _ _
  refine wpAny_bind ?_
  simp only [newExc, newTuple]
  refine wpAny_bind (wpAny_newObj_type ?_ (by size_fits))
  refine wpAny_bind (m := firstArgMember _ _) (wpAny_of_eq (a := Value.none) (by first | rfl | (simp only [firstArgMember]; rfl)) ?_)
  refine wpAny_newObj_type ?_ (by size_fits)
  simp only [raiseNew]
  refine wpAny_bind (wpAny_handled ?_)
  first | rw [show A.in1.handled = none from hh] | rw [hh]
  refine wpAny_bind (wpAny_pure (wpAny_throw ?_))
  exact hE _ _ (fun c o c1 c2 c3 c4 e => Heap.get?_push_of_some _ (Heap.get?_push_of_some _ (e4 _ _ c4 (e3.extBut _ _ c1 (e2 _ _ c3 (e1.extBut _ _ c1 e)))))) ⟨_, Heap.get?_push_size _ rfl, rfl⟩
theorem sz_next {z TI TO i1 i2 l1 l2 : Addr} {k : Nat} {xs ys : Array Value} {x y a b : Value} {Q : Option Value → Shared → Prop} (D : ZipApart z TI TO i1 i2 l1 l2)
    (hz : s.heap.get? z = some (szo TI TO .none)) (hTI : IsPair s.heap TI (.ref i1) (.ref i2)) (hTO : IsPair s.heap TO a b) (h1 : Src s.heap c1 i1 l1 k xs) (h2 : Src s.heap c2 i2 l2 k ys) (hx : xs[k]? = some x) (hy : ys[k]? = some y)
    (hQ : ∀ h', h'.get? z = some (szo TI TO (rawInt s.heap.objs.size)) → IsPair h' TO x y → Src h' c1 i1 l1 (k + 1) xs → Src h' c2 i2 l2 (k + 1) ys → IsPair h' s.heap.objs.size x y →
      (∀ c o, c ≠ z → c ≠ TO → c ≠ i1 → c ≠ i2 → s.heap.get? c = some o → h'.get? c = some o) → Q (some (.ref s.heap.objs.size)) { s with heap := h' }) :
    wpAny (model prog w) A (pyNext (.ref z)) Q E s := by
  have ty : s.TypeIs (.ref z) "zip" := ⟨_, hz, rfl⟩
  have body := sz_step (prog := prog) (w := w) (A := A.in1) (E := fun e s' => wpAny (model prog w) A (match (Except.error e : Except Value Value) with
    | .ok v => pure (some v)
    | .error e => do if ← isInstance e (.type "StopIteration") then pure none else throw e) Q E s') (Q := fun v s' => wpAny (model prog w) A (pure (some v)) Q E s') D hz hTI hTO h1 h2 hx hy fun h' b1 b2 b3 b4 b5 b6 => wpAny_pure (hQ h' b1 b2 b3 b4 b5 b6)
  unfold pyNext
  exact wpAny_bind (wpAny_attempt (wpAny_callSpecial?_slot (name := Str.ofString "__next__") ty F.slot_zip_next (wpAny_call_entry F.slot_zip_next ty F.entry_zip_next body (F.args_zip_next_1 _))))
theorem sz_over {z TI TO i1 i2 l1 l2 : Addr} {k : Nat} {xs ys : Array Value} {a b : Value} {Q : Option Value → Shared → Prop} (hh : A.handled = none) (D : ZipApart z TI TO i1 i2 l1 l2)
    (hz : s.heap.get? z = some (szo TI TO .none)) (hTI : IsPair s.heap TI (.ref i1) (.ref i2)) (hTO : IsPair s.heap TO a b) (h1 : Src s.heap c1 i1 l1 k xs) (h2 : Src s.heap c2 i2 l2 k ys) (hx : xs[k]? = none) (hy : ys[k]? = none)
    (hQ : ∀ h', (∀ c o, c ≠ z → c ≠ TO → c ≠ i1 → c ≠ i2 → s.heap.get? c = some o → h'.get? c = some o) → Q none { s with heap := h' }) :
    wpAny (model prog w) A (pyNext (.ref z)) Q E s := by
  have ty : s.TypeIs (.ref z) "zip" := ⟨_, hz, rfl⟩
  unfold pyNext
  refine wpAny_bind (wpAny_attempt (wpAny_callSpecial?_slot (name := Str.ofString "__next__") ty F.slot_zip_next (wpAny_call_entry F.slot_zip_next ty F.entry_zip_next (sz_stop hh D hz hTI hTO h1 h2 hx hy fun h' e kp ho => ?_) (F.args_zip_next_1 _))))
  obtain ⟨o, q1, q2⟩ := ho
  exact wpAny_bind (wpAny_isInstance (T := "StopIteration") (b := true) ⟨o, q1, q2⟩ isSubtype_stop (wpAny_pure (hQ h' kp)))
theorem sz_go {elts : List Expr} {n : Nat} {pos : Pos} {z TI TO T : Addr} {Q : Unit → Shared → Prop} (hz : s.heap.get? z = some (szo TI TO (rawInt T))) (hQ : ∀ h', h'.get? z = some (szo TI TO .none) → Heap.SameBut z s.heap h' → Q () { s with heap := h' }) :
    wpAny (model prog w) A (letOwnedTupleGo (.Tuple elts n pos) (.ref z) (.ref T)) Q E s := by
  unfold letOwnedTupleGo
  refine wpAny_bind (wpAny_load hz ?_)
  show wpAny _ _ (if (["enumerate", "zip", "dict_itemiterator", "dict_reverseitemiterator", "odict_iterator", "itertools.zip_longest", "itertools.pairwise"].contains "zip" && (#[rawInt T, .bool false, .bool true, .ref TI, .ref TO] : Array Value)[0]? == some (rawInt T)) = true then _ else _) Q E s
  rw [if_pos (by simp)]
  refine wpAny_bind (wpAny_rule ?_)
  show wpAny _ _ (setField (.ref z) 0 .none) Q E s
  exact wpAny_setField_rec hz (by simp) fun h' q1 q2 => hQ h' q1 q2
theorem sz_iter {z TI TO : Addr} {f0 : Value} {Q : Value → Shared → Prop} (hz : s.heap.get? z = some (szo TI TO f0)) (h : Q (.ref z) s) : wpAny (model prog w) A (pyIter (.ref z)) Q E s := by
  have ty : s.TypeIs (.ref z) "zip" := ⟨_, hz, rfl⟩
  refine wpAny_pyIter_slot ty F.slot_zip_iter (wpAny_call_entry F.slot_zip_iter ty F.entry_zip_iter ?_ (F.args_zip_iter_1 _))
  show wpAny _ _ (ret (.ref z)) _ _ s
  exact wpAny_pure ⟨_, rfl, "zip", _, ty, F.slot_zip_next.lookup, h⟩
end
theorem tyCall_zip_strict (a b c : Value) : checkTypeCall "zip" ⟨[a, b], [(Str.ofString "strict", c)]⟩ = pure () := by kernel_rfl
theorem newCall_zip_strict (a b c : Value) : checkBuiltinCall "zip.__new__" ⟨[.type "zip", a, b], [(Str.ofString "strict", c)]⟩ = pure () := by kernel_rfl
theorem initArgs_zip_strict (obj a b c : Value) : argsOk "object.__init__" ⟨[obj, a, b], [(Str.ofString "strict", c)]⟩ := by unfold argsOk; kernel_rfl
abbrev szZ (h : Heap) (o1 o2 : Obj) : Heap := (gzO2 h o1 o2).push (szo ((h.push o1).push o2).objs.size (gzT2 h o1 o2).objs.size .none)
theorem meets_sz_new {v1 v2 : Value} {o1 o2 : Obj} {H1 H2 : Heap → Prop} (B1 : Begins v1 o1 H1) (B2 : Begins v2 o2 H2) :
    Meets (Builtin.«zip.__new__» ⟨[.type "zip", v1, v2], [(Str.ofString "strict", .bool true)]⟩) (fun _ R s => (H1 s.heap ∧ H2 s.heap) ∧ R (.ok (.ret (.ref (gzO2 s.heap o1 o2).objs.size))) { s with heap := szZ s.heap o1 o2 }) :=
  .of_wp fun prog w A R s h => by
    obtain ⟨hp, g, d, tk, os⟩ := s
    obtain ⟨⟨h1, h2⟩, h⟩ := h
    have hsub := sub_zip
    have f1 : (Str.ofString "strict" != ("strict" : Str)) = false := by decide +kernel
    have q1 : ∀ {A' : Around} {E : Value → Shared → Prop} {Q : Value → Shared → Prop}, Q (.ref hp.objs.size) ⟨(hp.push o1), g, d, tk, os⟩ → wpAny (model prog w) A' (pyIter v1) Q E ⟨hp, g, d, tk, os⟩ :=
      fun q => B1.iter prog w _ _ ⟨hp, g, d, tk, os⟩ _ h1 q
    have q2 : ∀ {A' : Around} {E : Value → Shared → Prop} {Q : Value → Shared → Prop}, Q (.ref (hp.push o1).objs.size) ⟨((hp.push o1).push o2), g, d, tk, os⟩ → wpAny (model prog w) A' (pyIter v2) Q E ⟨(hp.push o1), g, d, tk, os⟩ :=
      fun q => B2.iter prog w _ _ ⟨(hp.push o1), g, d, tk, os⟩ _ (B2.keeps _ _ h2 fun b o' e => (Heap.get?_push_of_some _ e)) q
    wp_walk using q1, q2
    exact ⟨_, rfl, h⟩
/-! ### the walk -/
def SqB (K : PySem.W.Frag) (c : Bool) (H : Hp) (a : Addr) (xs : List V) : Prop := match c with
  | true => SqL K H a xs
  | false => SqT K H a xs
def IterB (h : Heap) (c : Bool) (it l : Addr) (k : Nat) : Prop := match c with
  | true => h.IsListIter it l k
  | false => h.IsTupleIter it l k
theorem IterB.mv {h h' : Heap} {c : Bool} {it l : Addr} {k : Nat} (q : IterB h c it l k) (e : ∀ o, h.get? it = some o → h'.get? it = some o) : IterB h' c it l k := by
  cases c with
  | true => exact Heap.IsListIter.at (show h.IsListIter it l k from q) e
  | false => exact Heap.IsTupleIter.at (show h.IsTupleIter it l k from q) e
theorem IterB.obj {h : Heap} {c : Bool} {it l : Addr} {k : Nat} (q : IterB h c it l k) : ∃ o, h.get? it = some o ∧ ∀ v, o.data ≠ .cell v := by
  cases c with
  | true =>
    obtain ⟨o, e1, _, e3⟩ := (show h.IsListIter it l k from q)
    exact ⟨o, e1, fun v z => by rw [e3] at z; cases z⟩
  | false =>
    obtain ⟨o, e1, _, e3⟩ := (show h.IsTupleIter it l k from q)
    exact ⟨o, e1, fun v z => by rw [e3] at z; cases z⟩
theorem Src.iter {h : Heap} {c : Bool} {it l : Addr} {k : Nat} {xs : Array Value} (q : Src h c it l k xs) : IterB h c it l k := by
  cases c with
  | true => exact And.left q
  | false => exact And.left q
section
variable {X : Cx} {pins : List (Addr × Obj)} {σ : L2.St} {H : Hp} {s : Shared}
theorem inv_src {c : Bool} {it a : Addr} {k : Nat} {xs : List V} (I : Inv X pins σ H s) (q : SqB X.K c H a xs) (r : IterB s.heap c it a k) : ∃ its : List Value, Vals xs its ∧ Src s.heap c it a k its.toArray := by
  cases c with
  | true =>
    obtain ⟨its, rv, p, _⟩ := I.list (show SqL X.K H a xs from q)
    exact ⟨its, rv, r, p.isList⟩
  | false =>
    obtain ⟨its, rv, p, _⟩ := I.tuple (show SqT X.K H a xs from q)
    exact ⟨its, rv, r, p⟩
theorem inv_sqB {c : Bool} {a : Addr} {xs ys : List V} (I : Inv X pins σ H s) (q : SqB X.K c H a xs) (r : SqB X.K c H a ys) : xs = ys := by
  cases c with
  | true => exact I.list_inj q r
  | false => exact I.tuple_inj q r
/-- strict zip: at each turn as both stand, of one length -/
def Itsz (K : PySem.W.Frag) (c1 c2 : Bool) (a b : Addr) : It :=
  ⟨fun i H => ∃ (xs ys : List V) (x y : V), SqB K c1 H a xs ∧ SqB K c2 H b ys ∧ xs[i]? = some x ∧ ys[i]? = some y,
    fun i H v H' => ∃ T x y, v = .ref T ∧ H T = none ∧ (∃ w1 w2, H' = upd H T (nT [w1, w2] [x, y])) ∧ (∀ xs, SqB K c1 H a xs → xs[i]? = some x) ∧ ∀ ys, SqB K c2 H b ys → ys[i]? = some y,
    fun i H => ∃ xs ys : List V, SqB K c1 H a xs ∧ SqB K c2 H b ys ∧ xs.length ≤ i ∧ ys.length ≤ i⟩
theorem turn_sz {P : Program} {w : World} {K : PySem.W.Frag} {c1 c2 : Bool} {elts : List Expr} {n : Nat} {pos : Pos} {a b z TI TO i1 i2 : Addr} (D : ZipApart z TI TO i1 i2 a b) :
    Turn P w K (.Tuple elts n pos) (Itsz K c1 c2 a b) [z, TI, TO, i1, i2] z (fun i h => h.get? z = some (szo TI TO .none) ∧ IsPair h TI (.ref i1) (.ref i2) ∧ (∃ x y, IsPair h TO x y) ∧ IterB h c1 i1 a i ∧ IterB h c2 i2 b i) where
  mem := List.mem_cons_self
  obj := fun i h st c hc => by
    obtain ⟨g1, g2, ⟨x, y, g3⟩, g4, g5⟩ := st
    simp only [List.mem_cons, List.not_mem_nil, or_false] at hc
    rcases hc with rfl | rfl | rfl | rfl | rfl
    · exact ⟨_, g1, fun v q => nomatch q⟩
    · exact ⟨_, g2, fun v q => nomatch q⟩
    · exact ⟨_, g3, fun v q => nomatch q⟩
    · exact g4.obj
    · exact g5.obj
  keep := fun i h h' st k => by
    obtain ⟨g1, g2, ⟨x, y, g3⟩, g4, g5⟩ := st
    exact ⟨k z (by simp) _ g1, k TI (by simp) _ g2, ⟨x, y, k TO (by simp) _ g3⟩, g4.mv fun o q => k i1 (by simp) o q, g5.mv fun o q => k i2 (by simp) o q⟩
  item := by
    intro X hP hw hK hc i pins s σ H E I hf st hg
    subst hP hw hK
    obtain ⟨g1, g2, ⟨x0, y0, g3⟩, g4, g5⟩ := st
    obtain ⟨xs, ys, x, y, hqx, hqy, hx, hy⟩ := hg
    obtain ⟨its, rv, p⟩ := inv_src I hqx g4
    obtain ⟨its2, rv2, p2⟩ := inv_src I hqy g5
    obtain ⟨u, hu, ru⟩ := rv.get hx
    obtain ⟨u2, hu2, ru2⟩ := rv2.get hy
    have hzl : z < s.heap.objs.size := Heap.lt_size g1
    have all5 : ∀ (c : Addr) (o : Obj) (h : Heap), (∀ c o, c ≠ z → c ≠ TO → c ≠ i1 → c ≠ i2 → s.heap.get? c = some o → h.get? c = some o) → c ∉ [z, TI, TO, i1, i2] → s.heap.get? c = some o → h.get? c = some o := fun c o h k n e => by
      simp only [List.mem_cons, List.not_mem_nil, or_false, not_or] at n
      exact k c o n.1 n.2.2.1 n.2.2.2.1 n.2.2.2.2 e
    refine sz_next D g1 g2 g3 p p2 (x := u) (y := u2) (by simpa using hu) (by simpa using hu2) fun h' z' TO' n1 n2 hT hk => ?_
    refine ⟨_, rfl, sz_go (s := { s with heap := h' }) z' fun h2 z2 sb => ?_⟩
    have up : ∀ c o, c ≠ z → h'.get? c = some o → h2.get? c = some o := fun c o n e => (sb.2 c n).trans e
    have hT2 : h2.get? s.heap.objs.size = some { cls := .type "tuple", data := .seq #[u, u2] } := up _ _ (Nat.ne_of_gt hzl) hT
    have I1 : Inv X pins σ (upd H s.heap.objs.size (nT [u, u2] [x, y])) { s with heap := h2 } :=
      I.turnedNew (t' := s.toks) (ch := [z, TI, TO, i1, i2]) (fun c o n e => up c o (fun q => n (by simp [q])) (all5 c o h' hk n e)) hf (Nat.le_refl _) ⟨hT2, by show 2 ≤ sizeLine; decide, [u, u2], .cons ru (.cons ru2 .nil), ⟨_, hT2, rfl, _, rfl⟩⟩
    refine ⟨.ref s.heap.objs.size, _, I1, rfl, ⟨_, x, y, rfl, I.hok.fresh (Nat.le_refl _), ⟨u, u2, rfl⟩, fun l hl => by rw [inv_sqB I hl hqx]; exact hx, fun l hl => by rw [inv_sqB I hl hqy]; exact hy⟩,
      ⟨z2, up _ _ D.TIz (hk _ _ D.TIz D.TITO D.TIi1 D.TIi2 g2), ⟨u, u2, up _ _ D.TOz TO'⟩, n1.iter.mv fun o q => up _ o D.i1z q, n2.iter.mv fun o q => up _ o D.i2z q⟩, fun c hcm => ?_⟩
    have hlt : c < s.heap.objs.size := by
      have hm := hcm
      simp only [List.mem_cons, List.not_mem_nil, or_false] at hm
      rcases hm with rfl | rfl | rfl | rfl | rfl
      · exact hzl
      · exact Heap.lt_size g2
      · exact Heap.lt_size g3
      · obtain ⟨_, e1, _⟩ := g4.obj
        exact Heap.lt_size e1
      · obtain ⟨_, e1, _⟩ := g5.obj
        exact Heap.lt_size e1
    rw [upd_ne (Nat.ne_of_lt hlt)]
    exact (hf c hcm).1
  done := by
    intro X hP hw hK hc i pins s σ H E I hf st hg
    subst hP hw hK
    obtain ⟨g1, g2, ⟨x0, y0, g3⟩, g4, g5⟩ := st
    obtain ⟨xs, ys, hqx, hqy, l1, l2⟩ := hg
    obtain ⟨its, rv, p⟩ := inv_src I hqx g4
    obtain ⟨its2, rv2, p2⟩ := inv_src I hqy g5
    have m1 := rv.length
    have m2 := rv2.length
    refine sz_over (I.ok.hd hc) D g1 g2 g3 p p2 (by simp; omega) (by simp; omega) fun h' hk => ⟨rfl, I.turnedL (t' := s.toks) (ch := [z, TI, TO, i1, i2]) (fun c o n e => ?_) hf⟩
    simp only [List.mem_cons, List.not_mem_nil, or_false, not_or] at n
    exact hk c o n.1 n.2.2.1 n.2.2.2.1 n.2.2.2.2 e
  self := fun A i s Q E st h => sz_iter st.1 h
end
end Mi
end
section
/-! Mi, part 28: a walk over zip(a, b, strict=True). -/
namespace Mi
open PySem PySem.Spec PyProof.Rows L2
section
variable {M : Model} {A : Around} {E : Value → Shared → Prop} {s : Shared} {env : Env}
theorem with_tkw {pos : Pos} {T : String} {first : List Value} {args : List (Bool × Sem Value)} {kws : List (Option Str × Sem Value)} {Q : Value → Shared → Prop} (hp : args.any (·.1) = false) (hk : kws.any (·.1.isNone) = false)
    (h : wpAny M A (evalArgs (.type T) true args kws) (fun a s1 => wpAny M A (call (.type T) (first ++ a.pos) a.kw) Q E s1) E s) : wpAny M A (callWith pos (.type T) first args kws) Q E s := by
  unfold callWith
  refine wpAny_bind (wpAny_holding (wpAny_mono h (fun a s1 h1 => wpAny_bind (wpAny_standAt ?_)) fun _ _ x => x))
  simp only [hp, hk, Bool.or_false]
  exact wpAny_bind (wpAny_pure (wpAny_bind (wpAny_mono h1 (fun r s2 hr => wpAny_bind (wpAny_holding (wpAny_point (wpAny_pure hr)))) fun _ _ x => x)))
end
section
variable {prog : Program} {w : World} {A : Around} {E : Value → Shared → Prop} {s : Shared}
/-- zip(v1, v2, strict=True): its five new cells -/
theorem sz_begins {v1 v2 : Value} {o1 o2 : Obj} {H1 H2 : Heap → Prop} {Q : Value → Shared → Prop} (B1 : Begins v1 o1 H1) (B2 : Begins v2 o2 H2) (h1 : H1 s.heap) (h2 : H2 s.heap)
    (h : ∀ h', h'.get? (s.heap.objs.size + 4) = some (szo (s.heap.objs.size + 2) (s.heap.objs.size + 3) .none) → IsPair h' (s.heap.objs.size + 2) (.ref s.heap.objs.size) (.ref (s.heap.objs.size + 1)) → IsPair h' (s.heap.objs.size + 3) .none .none →
      h'.get? s.heap.objs.size = some o1 → h'.get? (s.heap.objs.size + 1) = some o2 → (∀ c o, s.heap.get? c = some o → h'.get? c = some o) → Q (.ref (s.heap.objs.size + 4)) { s with heap := h' }) :
    wpAny (model prog w) A (call (.type "zip") [v1, v2] [(Str.ofString "strict", .bool true)]) Q E s := by
  refine callType_newKw F.called_zip (by decide) (tyCall_zip_strict _ _ _) (newCall_zip_strict _ _ _) (fun obj => initArgs_zip_strict obj _ _ _) F.entry_zip_new (meets_sz_new B1 B2) ⟨⟨h1, h2⟩, ?_⟩
  have n1 : (s.heap.push o1).objs.size = s.heap.objs.size + 1 := Heap.size_push ..
  have n2 : ((s.heap.push o1).push o2).objs.size = s.heap.objs.size + 2 := by rw [Heap.size_push, n1]
  have n3 : (gzT2 s.heap o1 o2).objs.size = s.heap.objs.size + 3 := by rw [Heap.size_push, n2]
  have n4 : (gzO2 s.heap o1 o2).objs.size = s.heap.objs.size + 4 := by rw [Heap.size_push, n3]
  have gz : (szZ s.heap o1 o2).get? (gzO2 s.heap o1 o2).objs.size = some (szo ((s.heap.push o1).push o2).objs.size (gzT2 s.heap o1 o2).objs.size .none) := Heap.get?_push_size _ rfl
  have go : IsPair (szZ s.heap o1 o2) (gzT2 s.heap o1 o2).objs.size .none .none := Heap.get?_push_of_some _ (Heap.get?_push_size _ rfl)
  have gt : IsPair (szZ s.heap o1 o2) ((s.heap.push o1).push o2).objs.size (.ref s.heap.objs.size) (.ref (s.heap.push o1).objs.size) := Heap.get?_push_of_some _ (Heap.get?_push_of_some _ (Heap.get?_push_size _ rfl))
  have g1 : (szZ s.heap o1 o2).get? s.heap.objs.size = some o1 := Heap.get?_push_of_some _ (Heap.get?_push_of_some _ (Heap.get?_push_of_some _ (Heap.get?_push_of_some _ (Heap.get?_push_size _ B1.free))))
  have g2 : (szZ s.heap o1 o2).get? (s.heap.push o1).objs.size = some o2 := Heap.get?_push_of_some _ (Heap.get?_push_of_some _ (Heap.get?_push_of_some _ (Heap.get?_push_size _ B2.free)))
  rw [n4, n3, n2] at gz
  rw [n3] at go
  rw [n2, n1] at gt
  rw [n1] at g2
  show _ ∧ _
  rw [n4]
  exact ⟨⟨_, gz, rfl⟩, h _ gz gt go g1 g2 fun c o e => Heap.get?_push_of_some _ (Heap.get?_push_of_some _ (Heap.get?_push_of_some _ (Heap.get?_push_of_some _ (Heap.get?_push_of_some _ e))))⟩
end
section
variable {X : Cx} {pins : List (Addr × Obj)} {σ : L2.St} {H : Hp} {s : Shared}
/-- the iterator's object at the start -/
def itObj (c : Bool) (a : Addr) : Obj := match c with
  | true => { cls := .type "list_iterator", data := .fields #[.ref a, .int 0 0] }
  | false => { cls := .type "tuple_iterator", data := .fields #[.ref a, .int 0 0] }
theorem begins_sq {c : Bool} {a : Addr} {xs : List V} (I : Inv X pins σ H s) (q : SqB X.K c H a xs) : ∃ P : Heap → Prop, Begins (.ref a) (itObj c a) P ∧ P s.heap ∧ a < s.heap.objs.size := by
  cases c with
  | true =>
    obtain ⟨its, rv, p, _⟩ := I.list (show SqL X.K H a xs from q)
    exact ⟨_, begins_list a its.toArray, p.isList, p.lt⟩
  | false =>
    obtain ⟨its, rv, p, _⟩ := I.tuple (show SqT X.K H a xs from q)
    obtain ⟨o, ho, _⟩ := id p
    exact ⟨_, begins_tuple a its.toArray, p, Heap.lt_size ho⟩
theorem iter_at {c : Bool} {h : Heap} {it a : Addr} (e : h.get? it = some (itObj c a)) : IterB h c it a 0 := by
  cases c with
  | true => exact ⟨_, e, rfl, rfl⟩
  | false => exact ⟨_, e, rfl, rfl⟩
def iSz (K : PySem.W.Frag) (ta : TA) : TI := fun σ H R => ta σ H fun vs H1 => ∃ c1 c2 a b xs ys, vs = [.ref a, .ref b] ∧ SqB K c1 H1 a xs ∧ SqB K c2 H1 b ys ∧ R (Itsz K c1 c2 a b) H1
theorem pi_sz {e e2 : Expr} {ta : TA} {j : Nat} {p pos cp kp tpos : Pos} {elts : List Expr} {n : Nat} (hg : Gl X "zip") (hm : X.mg "zip" = none) (ha : PA X [e, e2] ta) (hs : starEach [e, e2] X.env = [(false, eval e X.env), (false, eval e2 X.env)]) :
    PI X (.Tuple elts n tpos) (.Call (.Name "zip" p) [e, e2] [⟨some (Str.ofString "strict"), .Constant (.bool true) j cp, kp⟩] pos) (iSz X.K ta) := by
  refine ⟨fun pins s σ H R I h => ?_⟩
  refine wpAny_Call_Name_kw (ld_blt I hg hm PyProof.Rows.boot_zip ?_)
  have hb : backTo pos (starEach [e, e2] X.env) = [(false, eval e X.env), (false, eval e2 X.env)] := by
    rw [hs]
    rfl
  refine with_tkw (by rw [hb]; rfl) rfl ?_
  have ha' := ha.run pos pins s σ H _ I h
  rw [hb] at ha' ⊢
  refine evalArgs_kw rfl (thn ha' fun us s1 hv => ?_)
  obtain ⟨vs, H1, I1, r1, c1, c2, a, b, xs, ys, ex, q1, q2, q⟩ := hv
  subst ex
  have hk := (pk_cons (nm := some (Str.ofString "strict")) (kpos := kp) (pe_bl (X := X) (b := true) (j := j) (pos := cp)) (pk_nil (X := X))).run pos pins s1 σ H1 (fun zs H2 => zs = [.bl true] ∧ H2 = H1) I1 ⟨rfl, rfl⟩
  refine thn hk fun ws s2 hw => ?_
  obtain ⟨zs, H2, I2, r2, ez, eH⟩ := hw
  subst ez eH
  obtain ⟨w, rfl, rw1⟩ := vals1 r2
  obtain rfl : w = Value.bool true := rw1
  cases r1 with
  | cons ra rr =>
    cases rr with
    | cons rb rr =>
      cases rr
      cases ra
      cases rb
      obtain ⟨P1, B1, p1, l1⟩ := begins_sq I2 q1
      obtain ⟨P2, B2, p2, l2⟩ := begins_sq I2 q2
      have fresh : ∀ c, c ∈ [s2.heap.objs.size + 4, s2.heap.objs.size + 2, s2.heap.objs.size + 3, s2.heap.objs.size, s2.heap.objs.size + 1] → FpOk X pins H2 c := fun c hc => by
        have hle : s2.heap.objs.size ≤ c := by
          simp only [List.mem_cons, List.not_mem_nil, or_false] at hc
          rcases hc with z | z | z | z | z <;> (rw [z]; first | exact Nat.le_add_right _ _ | exact Nat.le_refl _)
        exact I2.fpOk hle (I2.hok.fresh hle)
      refine sz_begins B1 B2 p1 p2 fun h' g1 g2 g3 g4 g5 kp => sz_iter g1 ?_
      exact ⟨s2.heap.objs.size + 4, _, _, _, H2, rfl, I2.kept (t' := s2.toks) kp, turn_sz (PySem.W.ktu_apart s2.heap.objs.size a b l1 l2), ⟨g1, g2, ⟨_, _, g3⟩, iter_at g4, iter_at g5⟩, fresh, q⟩
end
/-! ### by data -/
theorem sqB_of {K : PySem.W.Frag} {m : Nat → Addr} {n : Nat} {H : Hp} {d : D} {xs : List D} {v : V} (e : seqD d = some xs) (h : RD K m n H d v) : ∃ c a vs, v = .ref a ∧ SqB K c H a vs ∧ RDL K m n H xs vs ∧
    ∀ m' n' H', Stp m n H m' n' H' → SqB K c H' a vs := by
  cases d with
  | tup ds =>
    cases e
    have h0 := h
    unfold RD at h0
    obtain ⟨p, vs, rfl, h1, h2⟩ := h0
    refine ⟨false, p, vs, rfl, ?_, h2, fun m' n' H' S => ?_⟩
    · exact SqT.ofT (h1.imp (fun ⟨its, z, _⟩ => ⟨its, z⟩) id)
    · rcases h1 with ⟨its, h1, o⟩ | h1
      · exact SqT.ofT (.inl ⟨its, S.kp p _ h1 rfl o⟩)
      · exact SqT.ofT (.inr h1)
  | lst ds =>
    cases e
    unfold RD at h
    obtain ⟨p, vs, rfl, h1, o, h2⟩ := h
    exact ⟨true, p, vs, rfl, SqL.of h1, h2, fun m' n' H' S => SqL.of (S.kp p _ h1 rfl o)⟩
  | _ => cases e
section
variable {X : Cx} {bs : Bs} {R : Rt} {b : Nat}
theorem rw_sz {c1 c2 : Bool} {a1 a2 : Addr} {xs ys : List D} {us vs : List V} {m : Nat → Addr} {n : Nat} {H : Hp} (hl : xs.length = ys.length) (r1 : RDL X.K m n H xs us) (r2 : RDL X.K m n H ys vs)
    (k1 : ∀ m' n' H', Stp m n H m' n' H' → SqB X.K c1 H' a1 us) (k2 : ∀ m' n' H', Stp m n H m' n' H' → SqB X.K c2 H' a2 vs) : WkOk X.K bs (.items ((xs.zip ys).map fun p => .tup [p.1, p.2])) m n H (Itsz X.K c1 c2 a1 a2) := by
  intro m' st' H' zs S W' e i
  cases e
  have t1 := r1.step S _ _
  have t2 := r2.step S _ _
  have q1 := k1 _ _ _ S
  have q2 := k2 _ _ _ S
  refine ⟨fun h1 => ?_, fun d h1 => ?_⟩
  · have h2 := List.getElem?_eq_none_iff.mp h1
    rw [List.length_map, List.length_zip] at h2
    have e1 := t1.len
    have e2 := t2.len
    exact ⟨us, vs, q1, q2, by omega, by omega⟩
  · rw [List.getElem?_map] at h1
    cases hz : (xs.zip ys)[i]? with
    | none => rw [hz] at h1; cases h1
    | some p =>
      rw [hz] at h1
      cases h1
      obtain ⟨dx, dy⟩ := p
      obtain ⟨hx, hy⟩ := List.getElem?_zip_eq_some.mp hz
      obtain ⟨vx, gx, rx⟩ := t1.getD hx
      obtain ⟨vy, gy, ry⟩ := t2.getD hy
      refine ⟨⟨us, vs, vx, vy, q1, q2, gx, gy⟩, fun x H'' y => ?_⟩
      obtain ⟨T, x1, x2, rfl, hT, ⟨w1, w2, rfl⟩, f1, f2⟩ := y
      have g1 := f1 us q1
      rw [gx] at g1
      cases g1
      have g2 := f2 vs q2
      rw [gy] at g2
      cases g2
      exact ⟨Stp.new hT, W'.new hT, RD.tup_new W' hT (RDL.cons rx (RDL.cons ry RDL.nil))⟩
theorem ei_zip {ex ey : Expr} {e e' : E} {p pos cp kp tpos : Pos} {j n : Nat} {elts : List Expr} (hg : Gl X "zip") (hm : X.mg "zip" = none) (ha : PAd X bs (evA R b (.cons e (.cons e' .nil))) [ex, ey]) (hs : starEach [ex, ey] X.env = [(false, eval ex X.env), (false, eval ey X.env)]) :
    PId X bs (evI R b .zip (.cons e (.cons e' .nil))) (.Tuple elts n tpos) (.Call (.Name "zip" p) [ex, ey] [⟨some (Str.ofString "strict"), .Constant (.bool true) j cp, kp⟩] pos) := by
  refine PI.by (pi_sz hg hm ha hs) ?_
  intro σ H Q hh
  obtain ⟨m, σd, st, W, r, q⟩ := hh
  refine ⟨m, σd, st, W, r, (Ok.bind (rel := RDL X.K) (g := fun ds st0 => toW .zip ds st0) q).mono ?_⟩
  intro vs H1 h1
  obtain ⟨m1, st1, ds, s1, W1, r1, q2⟩ := h1
  unfold toW at q2
  split at q2
  · rename_i hw
    rcases ds with _ | ⟨d, _ | ⟨d2, _ | ⟨d3, ds⟩⟩⟩
    · exact absurd hw (by unfold walkD wkOk; exact Bool.false_ne_true)
    · exact absurd hw (by unfold walkD wkOk; exact Bool.false_ne_true)
    · obtain ⟨v, w, rfl, rv, rw'⟩ := r1.twoV
      have e0 : walkD .zip [d, d2] = zipW d d2 := rfl
      rw [e0] at hw q2
      unfold zipW at hw q2
      split at q2
      · rename_i xs ys e1 e2
        simp only [e1, e2] at hw
        split at q2
        · rename_i hl
          obtain ⟨c1, a1, us, rfl, g1, g2, g3⟩ := sqB_of e1 rv
          obtain ⟨c2, a2, vs, rfl, h1, h2, h3⟩ := sqB_of e2 rw'
          exact ⟨c1, c2, a1, a2, us, vs, rfl, g1, h1, q2.at W1 (rw_sz hl g2 h2 g3 h3)⟩
        · rename_i hl
          rw [if_neg hl] at hw
          cases hw
      · rename_i hn
        split at hw
        · rename_i xs ys e1 e2
          exact absurd e2 (hn xs ys e1)
        · cases hw
    · exact absurd hw (by unfold walkD wkOk; exact Bool.false_ne_true)
  · exact q2.elim
end
end Mi
end
section
/-! Mi, part 17: that a written expression says what the compact one says. -/
namespace Mi
open PySem PySem.Spec PyProof.Rows L2

def okN (x : Str) : Bool := !(x == ("__debug__" : Str)) && !(x == ("__classdict__" : Str))
def visB (sc : Scope) (x : Str) : Bool :=
  match sc.names.lookup x with
  | some .local => true
  | some .cell => true
  | some .free => true
  | _ => false
def locB (os : Scope) (x : Str) : Bool :=
  match os.names.lookup x with
  | some .local => true
  | some .cell => true
  | _ => false
def glB (sc : Scope) (x : Str) : Bool := decide (sc.names.lookup x = some .globalImplicit)
def noSt : Expr → Bool
  | .Starred _ _ => false
  | _ => true
def noSl : Expr → Bool
  | .Slice _ _ _ _ => false
  | _ => true
def noC0 : Expr → Bool
  | .Call (.Name _ _) [] [] _ => false
  | _ => true
def noSet : Expr → Bool
  | .Set _ _ _ => false
  | _ => true
/-- not of a form that a test takes apart -/
def noTe : Expr → Bool
  | .UnaryOp .Not _ _ => false
  | .BoolOp _ _ _ => false
  | .IfExp _ _ _ _ => false
  | .Compare _ _ _ _ => false
  | _ => true
/-- no display that a generator expression folds -/
def noFo : Expr → Bool
  | .Set _ _ _ => false
  | .List _ _ => false
  | _ => true
def ownOf (N : List Str) (vs : List Nat) : List (Str × Nat) := vs.filterMap fun v => (N[v]?).map fun x => (x, v)
mutual
def ckTg (N : List Str) (os : Scope) : T → Expr → Bool
  | .nm i, ex => match ex with
    | .Name x _ => decide (N[i]? = some x) && locB os x
    | _ => false
  | .tp t, ex => match ex with
    | .Tuple es _ _ => ckTl N os t es
    | _ => false
  | .nil, _ => false
  | .cons _ _, _ => false
def ckTl (N : List Str) (os : Scope) : T → List Expr → Bool
  | .nil, es => match es with
    | [] => true
    | _ => false
  | .cons t r, es => match es with
    | e :: es => noSt e && ckTg N os t e && ckTl N os r es
    | [] => false
  | .nm _, _ => false
  | .tp _, _ => false
end
mutual
def ck (Γ : Gam) (N : List Str) : E → Option Nat → Scope → Scope → Expr → Bool
  | .var i, tj, sc, _, ex => match ex with
    | .Name x _ => decide (N[i]? = some x) && visB sc x && okN x
    | _ => false
  | .cint i, tj, _, _, ex => match ex with
    | .Constant (.int j) _ _ => decide (i = j)
    | _ => false
  | .cstr x, tj, _, _, ex => match ex with
    | .Constant (.str j) _ _ => decide (x = j)
    | _ => false
  | .cbl c, tj, _, _, ex => match ex with
    | .Constant (.bool j) _ _ => decide (c = j)
    | _ => false
  | .cnon, tj, _, _, ex => match ex with
    | .Constant .none _ _ => true
    | _ => false
  | .gl x j, tj, sc, _, ex => match ex with
    | .Name y _ => decide (x = y) && decide (Γ.gls[j]? = some x) && glB sc x && okN x
    | _ => false
  | .bty t, tj, sc, _, ex => match ex with
    | .Name y _ => decide (y = Str.ofString t.name) && decide (Str.ofString t.name ∈ Γ.bts) && glB sc (Str.ofString t.name)
    | _ => false
  | .nil, tj, _, _, _ => false
  | .cons _ _, tj, _, _, _ => false
  | .val x, tj, sc, os, ex => ck Γ N x tj sc os ex && noTe ex
  | .tup es, tj, sc, os, ex => match ex with
    | .Tuple xs _ _ => ckA Γ N es tj sc os xs
    | _ => false
  | .lst _ es, tj, sc, os, ex => match ex with
    | .List xs _ => ckA Γ N es tj sc os xs
    | _ => false
  | .dnew _, tj, _, _, ex => match ex with
    | .Dict [] [] _ => true
    | _ => false
  | .dsp es, tj, sc, os, ex => match ex with
    | .Dict keys values _ => ckD Γ N es tj sc os keys values && !keys.isEmpty && Nat.ble keys.length 15
    | _ => false
  | .dst e es, tj, sc, os, ex => match ex with
    | .Dict (none :: keys) (x :: values) _ => ck Γ N e tj sc os x && (ckD Γ N es tj sc os keys values && !keys.isEmpty && Nat.ble keys.length 15)
    | _ => false
  | .bin _ op x y, tj, sc, os, ex => match ex with
    | .BinOp a op' c _ => decide (op = op') && ck Γ N x tj sc os a && ck Γ N y tj sc os c
    | _ => false
  | .neg x, tj, sc, os, ex => match ex with
    | .UnaryOp .USub a _ => ck Γ N x tj sc os a
    | _ => false
  | .cmp op x y, tj, sc, os, ex => match ex with
    | .Compare a [o] [c] _ => decide (op = o) && ck Γ N x tj sc os a && ck Γ N y tj sc os c && !behindInMarks op c
    | _ => false
  | .cmp2 op op2 x y z, tj, sc, os, ex => match ex with
    | .Compare a [o, o2] [c, d] _ => decide (op = o) && decide (op2 = o2) && ck Γ N x tj sc os a && ck Γ N y tj sc os c && ck Γ N z tj sc os d && !lastMarks [op, op2] [c, d]
    | _ => false
  | .and x y, tj, sc, os, ex => match ex with
    | .BoolOp .And (a :: c :: r) pos => ck Γ N x tj sc os a && ck Γ N y tj sc os (.BoolOp .And (c :: r) pos)
    | _ => false
  | .or x y, tj, sc, os, ex => match ex with
    | .BoolOp .Or (a :: c :: r) pos => ck Γ N x tj sc os a && ck Γ N y tj sc os (.BoolOp .Or (c :: r) pos)
    | _ => false
  | .one x, tj, sc, os, ex => match ex with
    | .BoolOp _ [a] _ => ck Γ N x tj sc os a
    | _ => false
  | .not x, tj, sc, os, ex => match ex with
    | .UnaryOp .Not a _ => ck Γ N x tj sc os a
    | _ => false
  | .ite c x y, tj, sc, os, ex => match ex with
    | .IfExp a d e _ => ck Γ N c tj sc os a && ck Γ N x tj sc os d && ck Γ N y tj sc os e
    | _ => false
  | .ix x y, tj, sc, os, ex => match ex with
    | .Subscript a c _ => ck Γ N x tj sc os a && ck Γ N y tj sc os c && noSl c
    | _ => false
  | .sl _ x lo hi, tj, sc, os, ex => match ex with
    | .Subscript a (.Slice l h none _) _ => ck Γ N x tj sc os a && ckP Γ N lo tj sc os l && ckP Γ N hi tj sc os h
    | _ => false
  | .rev _ x, tj, sc, os, ex => match ex with
    | .Subscript a (.Slice none none (some (.UnaryOp .USub (.Constant (.int j) _ _) _)) _) _ => decide (j = 1) && ck Γ N x tj sc os a
    | _ => false
  | .call x f es, tj, sc, os, ex => match ex with
    | .Call (.Name y _) xs [] _ => decide (x = y) && decide (Γ.fns[f]? = some x) && glB sc x && okN x && ckA Γ N es tj sc os xs
    | _ => false
  | .callk x f np ks perm es ws, tj, sc, os, ex => match ex with
    | .Call (.Name y _) xs kws _ => decide (x = y) && decide (Γ.fns[f]? = some x) && glB sc x && okN x && decide ((f, np, ks, perm) ∈ Γ.kws) && ckA Γ N es tj sc os xs && ckK Γ N ws tj sc os ks kws
    | _ => false
  | .bi f _ es, tj, sc, os, ex => match ex with
    | .Call (.Name y _) (a :: xs) [] _ => decide (y = biN f) && decide (biN f ∈ Γ.bts) && glB sc (biN f) && ckA Γ N es tj sc os (a :: xs)
    | _ => false
  | .me m _ o es, tj, sc, os, ex => match ex with
    | .Call (.Attribute a nm apos) xs [] pos => decide (nm = meN m) && noC0 a && decide (apos.endLine = pos.line) && ck Γ N o tj sc os a && ckA Γ N es tj sc os xs &&
        (match xs with
        | [] => isLM m || isSM m
        | [_] => isLM m || isSM m || decide (m = .get1)
        | [_, _] => decide (m = .get2)
        | _ => false)
    | _ => false
  | .lc ik it t ts e vs, tj, sc, os, ex => match ex with
    | .ListComp elt [⟨tg, iter, ifs, ay⟩] scope _ => decide (ay = 0) && ckI Γ N it tj sc os ik tg iter && noSet iter && ckTg N scope t tg && ckT Γ N ts tj (relS scope sc) scope ifs && ck Γ N e tj (relS scope sc) scope elt &&
        decide ((ownOf N vs).map (·.2) = vs) && blkC N sc scope (ownOf N vs) && (tnm t).all fun i => decide (i ∈ vs)
    | _ => false
  | .all1 ti ik it t ts e vs, tj, sc, os, ex => match ex with
    | .Call (.Name y _) [.GeneratorExp elt [⟨tg, iter, ifs, ay⟩] scope _] [] _ => decide (y = "all") && decide (("all" : Str) ∈ Γ.bts) && glB sc "all" && decide (tj = some ti) && decide (ay = 0) && ckI Γ N it tj sc os ik tg iter && noFo iter && ckTg N scope t tg && ckT Γ N ts none scope scope ifs && ck Γ N e none scope scope elt &&
        decide ((ownOf N vs).map (·.2) = vs) && blkC N sc scope (ownOf N vs) && ((tnm t).all fun i => decide (i ∈ vs)) && (scope.names.all fun y => decide (y.2 ≠ .cell)) && decide (scope.names.lookup (".0" : Str) = some NameKind.local) && !scope.isCoroutine
    | _ => false
def ckA (Γ : Gam) (N : List Str) : E → Option Nat → Scope → Scope → List Expr → Bool
  | .nil, tj, _, _, xs => match xs with
    | [] => true
    | _ => false
  | .cons e es, tj, sc, os, xs => match xs with
    | x :: r => noSt x && ck Γ N e tj sc os x && ckA Γ N es tj sc os r
    | [] => false
  | _, _, _, _, _ => false
def ckD (Γ : Gam) (N : List Str) : E → Option Nat → Scope → Scope → List (Option Expr) → List Expr → Bool
  | .nil, tj, _, _, ks, vs => match ks, vs with
    | [], [] => true
    | _, _ => false
  | .cons k r, tj, sc, os, ks, vs => match r with
    | .cons v es => (match ks, vs with
      | some x :: ks, y :: vs => ck Γ N k tj sc os x && ck Γ N v tj sc os y && ckD Γ N es tj sc os ks vs
      | _, _ => false)
    | _ => false
  | _, _, _, _, _, _ => false
def ckK (Γ : Gam) (N : List Str) : E → Option Nat → Scope → Scope → List Str → List Keyword → Bool
  | .nil, tj, _, _, ks, xs => match ks, xs with
    | [], [] => true
    | _, _ => false
  | .cons e es, tj, sc, os, ks, xs => match ks, xs with
    | k :: ks, ⟨nm, x, _⟩ :: r => decide (nm = some k) && ck Γ N e tj sc os x && ckK Γ N es tj sc os ks r
    | _, _ => false
  | _, _, _, _, _, _ => false
def ckP (Γ : Gam) (N : List Str) : E → Option Nat → Scope → Scope → Option Expr → Bool
  | .nil, tj, _, _, x => match x with
    | none => true
    | some _ => false
  | .val e, tj, sc, os, x => match x with
    | some x => ck Γ N e tj sc os x
    | none => false
  | _, _, _, _, _ => false
def ckT (Γ : Gam) (N : List Str) : E → Option Nat → Scope → Scope → List Expr → Bool
  | .nil, tj, _, _, xs => match xs with
    | [] => true
    | _ => false
  | .cons e es, tj, sc, os, xs => match xs with
    | [x] => ck Γ N e tj sc os x && decide (es = .nil)
    | _ => false
  | _, _, _, _, _ => false
def ckI (Γ : Gam) (N : List Str) : E → Option Nat → Scope → Scope → IK → Expr → Expr → Bool
  | .cons e es, tj, sc, os, ik, tg, x =>
    match ik with
    | .seq => ck Γ N e tj sc os x && decide (es = .nil)
    | .strs => ck Γ N e tj sc os x && decide (es = .nil)
    | .range1 => (match x with
      | .Call (.Name y _) [a] [] _ => decide (y = "range") && decide (("range" : Str) ∈ Γ.bts) && glB sc "range" && ck Γ N e tj sc os a && noSt a && decide (es = .nil)
      | _ => false)
    | .range2 => (match x with
      | .Call (.Name y _) [a, c] [] _ => decide (y = "range") && decide (("range" : Str) ∈ Γ.bts) && glB sc "range" && ck Γ N e tj sc os a && noSt a && noSt c && ckA Γ N es tj sc os [c]
      | _ => false)
    | .zip => (match tg, x with
      | .Tuple _ _ _, .Call (.Name y _) [a, c] [⟨nm, .Constant (.bool true) _ _, _⟩] _ => decide (y = "zip") && decide (("zip" : Str) ∈ Γ.bts) && glB sc "zip" && decide (nm = some (Str.ofString "strict")) && ck Γ N e tj sc os a && noSt a && noSt c && ckA Γ N es tj sc os [c]
      | _, _ => false)
    | _ => false
  | _, _, _, _, _, _, _ => false
end
end Mi
end
section
/-! Mi, part 18: what is checked holds: expressions. -/
namespace Mi
open PySem PySem.Spec PyProof.Rows L2

/-! ### what the small checks tell -/
theorem okN_of {x : Str} (h : okN x = true) : (x == ("__debug__" : Str)) = false ∧ (x == ("__classdict__" : Str)) = false := by
  unfold okN at h
  rw [Bool.and_eq_true] at h
  exact ⟨by simpa using h.1, by simpa using h.2⟩
theorem visB_of {sc : Scope} {x : Str} (h : visB sc x = true) : Vis sc x := by
  unfold visB at h
  unfold Vis
  split at h
  · exact .inl (by assumption)
  · exact .inr (.inl (by assumption))
  · exact .inr (.inr (by assumption))
  · cases h
theorem noSt_star {x : Expr} {r : List Expr} {env : Env} (h : noSt x = true) : starEach (x :: r) env = (false, eval x env) :: starEach r env := by
  cases x <;> first | rfl | cases h
theorem noSt_asg {x : Expr} {r : List Expr} {env : Env} (h : noSt x = true) : assignEach (x :: r) env = (false, assign x env) :: assignEach r env := by
  cases x <;> first | rfl | cases h
theorem noSl_ix {x : Expr} (h : noSl x = true) : PlainIx x := by
  intro o i
  cases x <;> first | rfl | cases h
theorem noC0_base {x : Expr} {nm : Str} {env : Env} (h : noC0 x = true) : attributeBase x nm env (eval x env) = eval x env := by
  cases x with
  | Call f args kws pos =>
    cases f with
    | Name id p =>
      cases args with
      | nil =>
        cases kws with
        | nil => cases h
        | cons _ _ => rfl
      | cons _ _ => rfl
    | _ => rfl
  | _ => rfl
theorem noSet_fold {x : Expr} {env : Env} (h : noSet x = true) : ∀ v, foldedSetIterable x env v = pure v := by
  intro v
  cases x <;> first | rfl | cases h
theorem noTe_val {x : Expr} {env : Env} (h : noTe x = true) : ∀ whole, isTrue x env whole = (do let v ← whole; standAt x.pos; holding [v] (truthy v)) := by
  intro whole
  cases x with
  | UnaryOp op a pos => cases op <;> first | rfl | cases h
  | BoolOp _ _ _ => cases h
  | IfExp _ _ _ _ => cases h
  | Compare _ _ _ _ => cases h
  | _ => rfl
theorem any_star {pos : Pos} {env : Env} : ∀ {xs : List Expr}, xs.all noSt = true → (backTo pos (starEach xs env)).any (·.1) = false
  | [], _ => rfl
  | x :: r, h => by
    rw [List.all_cons, Bool.and_eq_true] at h
    rw [noSt_star h.1]
    show (false || (backTo pos (starEach r env)).any (·.1)) = false
    rw [any_star h.2]
    rfl
theorem relabel_eq {scope : Scope} {env : Env} : relabel scope env = relS scope env.scope := rfl
theorem XF.gl {X : Cx} {N : List Str} {sc os : Scope} {k : Nat} (F : XF X N sc os k) {x : Str} (h : glB sc x = true) : Gl X x := by
  unfold glB at h
  show X.env.scope.names.lookup x = _
  rw [F.hs]
  exact of_decide_eq_true h
theorem XF.vis {X : Cx} {N : List Str} {sc os : Scope} {k : Nat} (F : XF X N sc os k) {x : Str} (h : visB sc x = true) : Vis X.env.scope x := by
  rw [F.hs]
  exact visB_of h
theorem XF.loc {X : Cx} {N : List Str} {sc os : Scope} {k : Nat} (F : XF X N sc os k) {x : Str} (h : locB os x = true) : Loc X.env.scope x ∧ (X.fn x = true ∨ X.env.scope.names.lookup x = some .local) := by
  unfold locB at h
  rw [F.hs]
  obtain ⟨h1, h2⟩ := F.own x
  split at h
  · rename_i e
    exact ⟨.inl (h1 e), .inr (h1 e)⟩
  · rename_i e
    exact ⟨.inr (h2 e).1, .inl (h2 e).2⟩
  · cases h
theorem XF.blk {X : Cx} {N : List Str} {sc os : Scope} {k : Nat} (F : XF X N sc os k) (s : Shared) (H : Hp) (scope : Scope) (C : Addr) (cl : List (Str × Addr)) (fp : List Addr) : XF (X.blk s H scope (compEnvC scope cl C X.env) fp) N (relS scope sc) scope k where
  room := F.room
  gd := F.gd
  calm := F.calm
  nd := F.nd
  hN := F.hN
  hs := by
    show relabel scope X.env = relS scope sc
    rw [relabel_eq, F.hs]
  own := fun x => ⟨fun e => lookup_relS_keep (by decide) e, fun e => ⟨lookup_relS_keep (by decide) e, by show (scope.names.lookup x == some .cell) = true; rw [e]; rfl⟩⟩
  xe := rfl

/-! ### targets -/
section
variable {X : Cx} {N : List Str} {sc os : Scope} {k : Nat}
theorem ckTl_len (X : Cx) {os : Scope} : ∀ {t : T} {es : List Expr}, ckTl N os t es = true → (assignEach es X.env).length = lenT t ∧ (assignEach es X.env).findIdx? (·.1) = none
  | .nil, es, h => by
    cases es with
    | nil => exact ⟨rfl, rfl⟩
    | cons _ _ => unfold ckTl at h; cases h
  | .cons t r, es, h => by
    cases es with
    | nil => unfold ckTl at h; cases h
    | cons e es =>
      unfold ckTl at h
      simp only [Bool.and_eq_true] at h
      obtain ⟨h1, h2⟩ := ckTl_len X h.2
      rw [noSt_asg h.1.1]
      refine ⟨by rw [List.length_cons, h1]; rfl, ?_⟩
      rw [List.findIdx?_cons]
      simp only [Bool.false_eq_true, if_false, h2]
      rfl
  | .nm _, es, h => by unfold ckTl at h; cases h
  | .tp _, es, h => by unfold ckTl at h; cases h
mutual
theorem ckTg_ok (F : XF X N sc os k) : ∀ (t : T) (ex : Expr), ckTg N os t ex = true → PGd X t ex
  | .nm i, ex, h => by
    unfold ckTg at h
    split at h
    · rw [Bool.and_eq_true] at h
      obtain ⟨h1, h2⟩ := F.loc h.2
      exact eg_name F.nd (by rw [F.hN]; exact of_decide_eq_true h.1) h1 h2
    · cases h
  | .tp t, ex, h => by
    unfold ckTg at h
    split at h
    · obtain ⟨h1, h2⟩ := ckTl_len X h
      exact eg_tup F.calm (ckTl_ok F t _ h) h1 h2
    · cases h
  | .nil, ex, h => by unfold ckTg at h; cases h
  | .cons _ _, ex, h => by unfold ckTg at h; cases h
theorem ckTl_ok (F : XF X N sc os k) : ∀ (t : T) (es : List Expr), ckTl N os t es = true → PGsd X t es
  | .nil, es, h => by
    unfold ckTl at h
    split at h
    · exact eg_nil
    · cases h
  | .cons t r, es, h => by
    unfold ckTl at h
    split at h
    · simp only [Bool.and_eq_true] at h
      exact eg_cons (ckTg_ok F t _ h.1.2) (ckTl_ok F r _ h.2) (by rw [noSt_asg h.1.1]; rfl)
    · cases h
  | .nm _, es, h => by unfold ckTl at h; cases h
  | .tp _, es, h => by unfold ckTl at h; cases h
end
end

/-! ### expressions -/
/-- what is shown of an expression -/
structure Sd (X : Cx) (bs : Bs) (R : Rt) (b : Nat) (e : E) (ex : Expr) : Prop where
  v : PEd X bs (ev R b e) ex
  t : PTd X bs (evT R b e) ex
  w : ∀ op es pos, ex = .BoolOp op es pos → PWd X bs (evT R b e) ex
theorem et_bad {X : Cx} {bs : Bs} {R : Rt} {b : Nat} {e : E} {ex : Expr} (h : ∀ σ st, evT R b e σ st = .bad) : PTd X bs (evT R b e) ex := by
  refine ⟨fun pins s σ H Q I hh => ?_⟩
  obtain ⟨m, σd, st, W, r, q⟩ := hh
  rw [h] at q
  exact q.elim
theorem ew_bad {X : Cx} {bs : Bs} {R : Rt} {b : Nat} {e : E} {ex : Expr} (h : ∀ σ st, evT R b e σ st = .bad) : PWd X bs (evT R b e) ex := by
  refine ⟨fun wh pins s σ H Q I hh => ?_⟩
  obtain ⟨m, σd, st, W, r, q⟩ := hh
  rw [h] at q
  exact q.elim
theorem Sd.of {X : Cx} {bs : Bs} {R : Rt} {b : Nat} {e : E} {ex : Expr} (h : PEd X bs (ev R b e) ex) (hb : ∀ σ st, evT R b e σ st = .bad) : Sd X bs R b e ex := ⟨h, et_bad hb, fun _ _ _ _ => ew_bad hb⟩
/-- where an expression stands -/
structure At (Γ : Gam) (N : List Str) (R : Rt) (k : Nat) (bs : Bs) (tj : Option Nat) (X : Cx) (sc os : Scope) : Prop where
  G : GF X.prog X.w X.K X.mg X.base Γ R k bs.ts
  F : XF X N sc os k
  tab : ∀ ti, tj = some ti → (∀ env : Env, Room k (X.A.in1.in1.deeper env)) ∧ ∃ c P, bs.ts[ti]? = some P ∧ GxR.TabB X.base X.mg c P ∧ X.env.code = .ref c
theorem At.blk {Γ : Gam} {N : List Str} {R : Rt} {k : Nat} {bs : Bs} {tj : Option Nat} {X : Cx} {sc os : Scope} (h : At Γ N R k bs tj X sc os) (s : Shared) (H : Hp) (scope : Scope) (C : Addr) (cl : List (Str × Addr)) (fp : List Addr) : At Γ N R k bs tj (X.blk s H scope (compEnvC scope cl C X.env) fp) (relS scope sc) scope := ⟨h.G, h.F.blk s H scope C cl fp, h.tab⟩
theorem At.gx {Γ : Gam} {N : List Str} {R : Rt} {k : Nat} {bs : Bs} {ti : Nat} {X : Cx} {sc os : Scope} (h : At Γ N R k bs (some ti) X sc os) (s : Shared) (H : Hp) (scope : Scope) (cl : List (Str × Addr)) (code : Value) (fp : List Addr) (pn : List (Addr × Obj)) (nc : ∀ y ∈ scope.names, y.2 ≠ .cell) :
    At Γ N R k bs none (gxc X (X.A.in1.in1.deeper (genEnv scope cl s.heap.objs.size code builtinsNs X.env)) s H (genEnv scope cl s.heap.objs.size code builtinsNs X.env) fp pn) scope scope :=
  ⟨h.G, ⟨(h.tab ti rfl).1 _, h.F.gd, h.F.calm, h.F.nd, h.F.hN, rfl, fun x => ⟨fun e => e, fun e => absurd rfl (nc _ (PySem.mem_of_lookup e))⟩, rfl⟩, fun ti e => by cases e⟩
section
variable {Γ : Gam} {N : List Str} {R : Rt} {k b : Nat} {bs : Bs}
theorem ckA_nil : ∀ {e : E} {tj : Option Nat} {sc os : Scope}, ckA Γ N e tj sc os [] = true → e = .nil
  | e, tj, sc, os, h => by
    unfold ckA at h
    split at h
    · rfl
    · cases h
    · cases h
/-- what stands in a row of expressions -/
def items : E → List E
  | .cons e es => e :: items es
  | _ => []
/-- all that is shown of a compact expression -/
structure All (Γ : Gam) (N : List Str) (R : Rt) (k b : Nat) (bs : Bs) (x : E) : Prop where
  e : ∀ (X : Cx) (tj : Option Nat) (sc os : Scope) (ex : Expr), At Γ N R k bs tj X sc os → ck Γ N x tj sc os ex = true → Sd X bs R b x ex
  a : ∀ (X : Cx) (tj : Option Nat) (sc os : Scope) (xs : List Expr), At Γ N R k bs tj X sc os → ckA Γ N x tj sc os xs = true → PAd X bs (evA R b x) xs ∧ xs.all noSt = true ∧ True
  kw : ∀ (X : Cx) (tj : Option Nat) (sc os : Scope) (ks : List Str) (xs : List Keyword), At Γ N R k bs tj X sc os → ckK Γ N x tj sc os ks xs = true → PKd X bs (evA R b x) xs ∧ (∀ pos, (backToKw pos (keywordEach xs X.env)).all (·.1.isSome) = true) ∧ (∀ pos, (backToKw pos (keywordEach xs X.env)).filterMap (·.1) = ks) ∧ ∀ {pos}, (backToKw pos (keywordEach xs X.env)).any (·.1.isNone) = false
  p : ∀ (X : Cx) (tj : Option Nat) (sc os : Scope) (y : Option Expr), At Γ N R k bs tj X sc os → ckP Γ N x tj sc os y = true → PO X y (tO X.K bs (evP R b x))
  t : ∀ (X : Cx) (tj : Option Nat) (sc os : Scope) (xs : List Expr), At Γ N R k bs tj X sc os → ckT Γ N x tj sc os xs = true → PTs X xs (tT X.K bs (evT R b x))
  i : ∀ (X : Cx) (tj : Option Nat) (sc os : Scope) (ik : IK) (tg y : Expr), At Γ N R k bs tj X sc os → ckI Γ N x tj sc os ik tg y = true → PId X bs (evI R b ik x) tg y
  c : ∀ e es, x = .cons e es → (∀ (X : Cx) (tj : Option Nat) (sc os : Scope) (ex : Expr), At Γ N R k bs tj X sc os → ck Γ N e tj sc os ex = true → Sd X bs R b e ex) ∧ ∀ f fs, es = .cons f fs → ∀ (X : Cx) (tj : Option Nat) (sc os : Scope) (ex : Expr), At Γ N R k bs tj X sc os → ck Γ N f tj sc os ex = true → Sd X bs R b f ex
  l : ∀ y ∈ items x, ∀ (X : Cx) (tj : Option Nat) (sc os : Scope) (ex : Expr), At Γ N R k bs tj X sc os → ck Γ N y tj sc os ex = true → Sd X bs R b y ex
theorem c_var_e (hb : ∀ c ∈ bs, c ≤ b) (i : Nat) : ∀ (X : Cx) (tj : Option Nat) (sc os : Scope) (ex : Expr), At Γ N R k bs tj X sc os → ck Γ N (E.var i) tj sc os ex = true → Sd X bs R b (E.var i) ex := by
  intro X tj sc os ex A h
  unfold ck at h
  split at h
  · simp only [Bool.and_eq_true] at h
    exact .of (ed_var (by rw [A.F.hN]; exact of_decide_eq_true h.1.1) (A.F.vis h.1.2) (okN_of h.2).1 (okN_of h.2).2) fun _ _ => rfl
  · cases h
theorem c_cint_e (hb : ∀ c ∈ bs, c ≤ b) (i : Int) : ∀ (X : Cx) (tj : Option Nat) (sc os : Scope) (ex : Expr), At Γ N R k bs tj X sc os → ck Γ N (E.cint i) tj sc os ex = true → Sd X bs R b (E.cint i) ex := by
  intro X tj sc os ex A h
  unfold ck at h
  split at h
  · have e := of_decide_eq_true h
    subst e
    exact .of ed_int fun _ _ => rfl
  · cases h
theorem c_cstr_e (hb : ∀ c ∈ bs, c ≤ b) (i : Str) : ∀ (X : Cx) (tj : Option Nat) (sc os : Scope) (ex : Expr), At Γ N R k bs tj X sc os → ck Γ N (E.cstr i) tj sc os ex = true → Sd X bs R b (E.cstr i) ex := by
  intro X tj sc os ex A h
  unfold ck at h
  split at h
  · have e := of_decide_eq_true h
    subst e
    exact .of ed_str fun _ _ => rfl
  · cases h
theorem c_cbl_e (hb : ∀ c ∈ bs, c ≤ b) (i : Bool) : ∀ (X : Cx) (tj : Option Nat) (sc os : Scope) (ex : Expr), At Γ N R k bs tj X sc os → ck Γ N (E.cbl i) tj sc os ex = true → Sd X bs R b (E.cbl i) ex := by
  intro X tj sc os ex A h
  unfold ck at h
  split at h
  · have e := of_decide_eq_true h
    subst e
    exact .of ed_bl fun _ _ => rfl
  · cases h
theorem c_cnon_e (hb : ∀ c ∈ bs, c ≤ b) : ∀ (X : Cx) (tj : Option Nat) (sc os : Scope) (ex : Expr), At Γ N R k bs tj X sc os → ck Γ N E.cnon tj sc os ex = true → Sd X bs R b E.cnon ex := by
  intro X tj sc os ex A h
  unfold ck at h
  split at h
  · exact .of ed_non fun _ _ => rfl
  · cases h
theorem c_gl_e (hb : ∀ c ∈ bs, c ≤ b) (x : Str) (j : Nat) : ∀ (X : Cx) (tj : Option Nat) (sc os : Scope) (ex : Expr), At Γ N R k bs tj X sc os → ck Γ N (E.gl x j) tj sc os ex = true → Sd X bs R b (E.gl x j) ex := by
  intro X tj sc os ex A h
  unfold ck at h
  split at h
  · simp only [Bool.and_eq_true] at h
    have e := of_decide_eq_true h.1.1.1
    subst e
    exact .of (ed_gl A.G (of_decide_eq_true h.1.1.2) (A.F.gl h.1.2) (okN_of h.2).1) fun _ _ => rfl
  · cases h
theorem c_bty_e (hb : ∀ c ∈ bs, c ≤ b) (t : Bt) : ∀ (X : Cx) (tj : Option Nat) (sc os : Scope) (ex : Expr), At Γ N R k bs tj X sc os → ck Γ N (E.bty t) tj sc os ex = true → Sd X bs R b (E.bty t) ex := by
  intro X tj sc os ex A h
  unfold ck at h
  split at h
  · simp only [Bool.and_eq_true] at h
    have e := of_decide_eq_true h.1.1
    subst e
    exact .of (ed_bty A.G (of_decide_eq_true h.1.2) (A.F.gl h.2)) fun _ _ => rfl
  · cases h
theorem c_nil_a (hb : ∀ c ∈ bs, c ≤ b) : ∀ (X : Cx) (tj : Option Nat) (sc os : Scope) (xs : List Expr), At Γ N R k bs tj X sc os → ckA Γ N E.nil tj sc os xs = true → PAd X bs (evA R b E.nil) xs ∧ xs.all noSt = true ∧ True := by
  intro X tj sc os xs A h
  unfold ckA at h
  split at h
  · exact ⟨ea_nil, rfl, trivial⟩
  · cases h
theorem c_nil_kw (hb : ∀ c ∈ bs, c ≤ b) : ∀ (X : Cx) (tj : Option Nat) (sc os : Scope) (ks : List Str) (xs : List Keyword), At Γ N R k bs tj X sc os → ckK Γ N E.nil tj sc os ks xs = true → PKd X bs (evA R b E.nil) xs ∧ (∀ pos, (backToKw pos (keywordEach xs X.env)).all (·.1.isSome) = true) ∧ (∀ pos, (backToKw pos (keywordEach xs X.env)).filterMap (·.1) = ks) ∧ ∀ {pos}, (backToKw pos (keywordEach xs X.env)).any (·.1.isNone) = false := by
  intro X tj sc os ks xs A h
  unfold ckK at h
  split at h
  · exact ⟨ek_nil, fun _ => rfl, fun _ => rfl, rfl⟩
  · cases h
theorem c_nil_p (hb : ∀ c ∈ bs, c ≤ b) : ∀ (X : Cx) (tj : Option Nat) (sc os : Scope) (y : Option Expr), At Γ N R k bs tj X sc os → ckP Γ N E.nil tj sc os y = true → PO X y (tO X.K bs (evP R b E.nil)) := by
  intro X tj sc os y A h
  unfold ckP at h
  split at h
  · exact ep_none
  · cases h
theorem c_nil_t (hb : ∀ c ∈ bs, c ≤ b) : ∀ (X : Cx) (tj : Option Nat) (sc os : Scope) (xs : List Expr), At Γ N R k bs tj X sc os → ckT Γ N E.nil tj sc os xs = true → PTs X xs (tT X.K bs (evT R b E.nil)) := by
  intro X tj sc os xs A h
  unfold ckT at h
  split at h
  · exact ets_nil
  · cases h
theorem c_cons_a (hb : ∀ c ∈ bs, c ≤ b) (e : E) (es : E) (Ie : All Γ N R k b bs e) (Ies : All Γ N R k b bs es) : ∀ (X : Cx) (tj : Option Nat) (sc os : Scope) (xs : List Expr), At Γ N R k bs tj X sc os → ckA Γ N (E.cons e es) tj sc os xs = true → PAd X bs (evA R b (E.cons e es)) xs ∧ xs.all noSt = true ∧ True := by
  intro X tj sc os xs A h
  unfold ckA at h
  split at h
  · simp only [Bool.and_eq_true] at h
    obtain ⟨h1, h2, _⟩ := Ies.a X tj sc os _ A h.2
    exact ⟨ea_cons (Ie.e X tj sc os _ A h.1.2).v h1 (noSt_star h.1.1), by rw [List.all_cons, h.1.1, h2]; rfl, trivial⟩
  · cases h
theorem c_cons_kw (hb : ∀ c ∈ bs, c ≤ b) (e : E) (es : E) (Ie : All Γ N R k b bs e) (Ies : All Γ N R k b bs es) : ∀ (X : Cx) (tj : Option Nat) (sc os : Scope) (ks : List Str) (xs : List Keyword), At Γ N R k bs tj X sc os → ckK Γ N (E.cons e es) tj sc os ks xs = true → PKd X bs (evA R b (E.cons e es)) xs ∧ (∀ pos, (backToKw pos (keywordEach xs X.env)).all (·.1.isSome) = true) ∧ (∀ pos, (backToKw pos (keywordEach xs X.env)).filterMap (·.1) = ks) ∧ ∀ {pos}, (backToKw pos (keywordEach xs X.env)).any (·.1.isNone) = false := by
  intro X tj sc os ks xs A h
  unfold ckK at h
  split at h
  · simp only [Bool.and_eq_true] at h
    have e1 := of_decide_eq_true h.1.1
    subst e1
    obtain ⟨h1, h2, h3, h4⟩ := Ies.kw X tj sc os _ _ A h.2
    refine ⟨ek_cons (Ie.e X tj sc os _ A h.1.2).v h1, fun pos => ?_, fun pos => ?_, ?_⟩
    · show (true && (backToKw pos (keywordEach _ X.env)).all (·.1.isSome)) = true
      rw [h2]
      rfl
    · show _ :: (backToKw pos (keywordEach _ X.env)).filterMap (·.1) = _
      rw [h3]
    · intro pos
      show (false || (backToKw pos (keywordEach _ X.env)).any (·.1.isNone)) = false
      rw [h4]
      rfl
  · cases h
theorem c_cons_t (hb : ∀ c ∈ bs, c ≤ b) (e : E) (es : E) (Ie : All Γ N R k b bs e) (Ies : All Γ N R k b bs es) : ∀ (X : Cx) (tj : Option Nat) (sc os : Scope) (xs : List Expr), At Γ N R k bs tj X sc os → ckT Γ N (E.cons e es) tj sc os xs = true → PTs X xs (tT X.K bs (evT R b (E.cons e es))) := by
  intro X tj sc os xs A h
  unfold ckT at h
  split at h
  · rw [Bool.and_eq_true] at h
    have e1 := of_decide_eq_true h.2
    subst e1
    exact ets_one (Ie.e X tj sc os _ A h.1).t
  · cases h
theorem c_cons_i (hb : ∀ c ∈ bs, c ≤ b) (e : E) (es : E) (Ie : All Γ N R k b bs e) (Ies : All Γ N R k b bs es) : ∀ (X : Cx) (tj : Option Nat) (sc os : Scope) (ik : IK) (tg x : Expr), At Γ N R k bs tj X sc os → ckI Γ N (E.cons e es) tj sc os ik tg x = true → PId X bs (evI R b ik (E.cons e es)) tg x := by
  intro X tj sc os ik tg x A h
  unfold ckI at h
  cases ik with
  | seq =>
    simp only [Bool.and_eq_true] at h
    have e1 := of_decide_eq_true h.2
    subst e1
    exact ei_seq (Ie.e X tj sc os _ A h.1).v
  | «strs» =>
    simp only [Bool.and_eq_true] at h
    have e1 := of_decide_eq_true h.2
    subst e1
    exact ei_str (Ie.e X tj sc os _ A h.1).v
  | range1 =>
    simp only at h
    split at h
    · simp only [Bool.and_eq_true] at h
      obtain ⟨⟨⟨⟨⟨h1, h2⟩, h3⟩, h4⟩, h5⟩, h6⟩ := h
      have e1 := of_decide_eq_true h1
      subst e1
      have e2 := of_decide_eq_true h6
      subst e2
      exact ei_range1 (A.F.gl h3) (A.G.bt _ (of_decide_eq_true h2)) (ea_cons (Ie.e X tj sc os _ A h4).v ea_nil (noSt_star h5)) (noSt_star h5)
    · cases h
  | range2 =>
    simp only at h
    split at h
    · simp only [Bool.and_eq_true] at h
      obtain ⟨⟨⟨⟨⟨⟨h1, h2⟩, h3⟩, h4⟩, h5⟩, h6⟩, h7⟩ := h
      have e1 := of_decide_eq_true h1
      subst e1
      obtain ⟨a1, a2, _⟩ := Ies.a X tj sc os _ A h7
      cases es with
      | cons e2 es2 =>
        unfold ckA at h7
        simp only [Bool.and_eq_true] at h7
        have e3 := ckA_nil h7.2
        subst e3
        exact ei_range2 (A.F.gl h3) (A.G.bt _ (of_decide_eq_true h2)) (ea_cons (Ie.e X tj sc os _ A h4).v a1 (noSt_star h5)) (by rw [noSt_star h5, noSt_star h6]; rfl) (noSt_star h6)
      | _ => unfold ckA at h7; cases h7
    · cases h
  | zip =>
    simp only at h
    split at h
    · simp only [Bool.and_eq_true] at h
      obtain ⟨⟨⟨⟨⟨⟨⟨h1, h2⟩, h3⟩, h0⟩, h4⟩, h5⟩, h6⟩, h7⟩ := h
      have e1 := of_decide_eq_true h1
      subst e1
      have e0 := of_decide_eq_true h0
      subst e0
      obtain ⟨a1, a2, _⟩ := Ies.a X tj sc os _ A h7
      cases es with
      | cons e2 es2 =>
        unfold ckA at h7
        simp only [Bool.and_eq_true] at h7
        have e3 := ckA_nil h7.2
        subst e3
        exact ei_zip (A.F.gl h3) (A.G.bt _ (of_decide_eq_true h2)) (ea_cons (Ie.e X tj sc os _ A h4).v a1 (noSt_star h5)) (by rw [noSt_star h5, noSt_star h6]; rfl)
      | _ => unfold ckA at h7; cases h7
    · cases h
  | _ => cases h
theorem c_val_e (hb : ∀ c ∈ bs, c ≤ b) (x : E) (Ix : All Γ N R k b bs x) : ∀ (X : Cx) (tj : Option Nat) (sc os : Scope) (ex : Expr), At Γ N R k bs tj X sc os → ck Γ N (E.val x) tj sc os ex = true → Sd X bs R b (E.val x) ex := by
  intro X tj sc os ex A h
  unfold ck at h
  rw [Bool.and_eq_true] at h
  have ih := Ix.e X tj sc os ex A h.1
  refine ⟨ed_val ih.v, et_val ih.v (noTe_val h.2), fun op es pos e => ?_⟩
  subst e
  cases h.2
theorem c_val_p (hb : ∀ c ∈ bs, c ≤ b) (x : E) (Ix : All Γ N R k b bs x) : ∀ (X : Cx) (tj : Option Nat) (sc os : Scope) (y : Option Expr), At Γ N R k bs tj X sc os → ckP Γ N (E.val x) tj sc os y = true → PO X y (tO X.K bs (evP R b (E.val x))) := by
  intro X tj sc os y A h
  unfold ckP at h
  split at h
  · exact ep_some (Ix.e X tj sc os _ A h).v
  · cases h
theorem c_tup_e (hb : ∀ c ∈ bs, c ≤ b) (es : E) (Ies : All Γ N R k b bs es) : ∀ (X : Cx) (tj : Option Nat) (sc os : Scope) (ex : Expr), At Γ N R k bs tj X sc os → ck Γ N (E.tup es) tj sc os ex = true → Sd X bs R b (E.tup es) ex := by
  intro X tj sc os ex A h
  unfold ck at h
  split at h
  · exact .of (ed_tup (Ies.a X tj sc os _ A h).1) fun _ _ => rfl
  · cases h
theorem c_lst_e (hb : ∀ c ∈ bs, c ≤ b) (own : Bool) (es : E) (Ies : All Γ N R k b bs es) : ∀ (X : Cx) (tj : Option Nat) (sc os : Scope) (ex : Expr), At Γ N R k bs tj X sc os → ck Γ N (E.lst own es) tj sc os ex = true → Sd X bs R b (E.lst own es) ex := by
  intro X tj sc os ex A h
  unfold ck at h
  split at h
  · exact .of (ed_lst (Ies.a X tj sc os _ A h).1) fun _ _ => rfl
  · cases h
theorem c_dnew_e (hb : ∀ c ∈ bs, c ≤ b) (own : Bool) : ∀ (X : Cx) (tj : Option Nat) (sc os : Scope) (ex : Expr), At Γ N R k bs tj X sc os → ck Γ N (E.dnew own) tj sc os ex = true → Sd X bs R b (E.dnew own) ex := by
  intro X tj sc os ex A h
  unfold ck at h
  split at h
  · exact .of ed_dnew fun _ _ => rfl
  · cases h
theorem c_bin_e (hb : ∀ c ∈ bs, c ≤ b) (own : Bool) (op : Operator) (x : E) (y : E) (Ix : All Γ N R k b bs x) (Iy : All Γ N R k b bs y) : ∀ (X : Cx) (tj : Option Nat) (sc os : Scope) (ex : Expr), At Γ N R k bs tj X sc os → ck Γ N (E.bin own op x y) tj sc os ex = true → Sd X bs R b (E.bin own op x y) ex := by
  intro X tj sc os ex A h
  unfold ck at h
  split at h
  · simp only [Bool.and_eq_true] at h
    have e := of_decide_eq_true h.1.1
    subst e
    exact .of (ed_bin (Ix.e X tj sc os _ A h.1.2).v (Iy.e X tj sc os _ A h.2).v) fun _ _ => rfl
  · cases h
theorem c_neg_e (hb : ∀ c ∈ bs, c ≤ b) (x : E) (Ix : All Γ N R k b bs x) : ∀ (X : Cx) (tj : Option Nat) (sc os : Scope) (ex : Expr), At Γ N R k bs tj X sc os → ck Γ N (E.neg x) tj sc os ex = true → Sd X bs R b (E.neg x) ex := by
  intro X tj sc os ex A h
  unfold ck at h
  split at h
  · exact .of (ed_neg (Ix.e X tj sc os _ A h).v) fun _ _ => rfl
  · cases h
theorem c_cmp_e (hb : ∀ c ∈ bs, c ≤ b) (op : CmpOp) (x : E) (y : E) (Ix : All Γ N R k b bs x) (Iy : All Γ N R k b bs y) : ∀ (X : Cx) (tj : Option Nat) (sc os : Scope) (ex : Expr), At Γ N R k bs tj X sc os → ck Γ N (E.cmp op x y) tj sc os ex = true → Sd X bs R b (E.cmp op x y) ex := by
  intro X tj sc os ex A h
  unfold ck at h
  split at h
  · simp only [Bool.and_eq_true] at h
    have e := of_decide_eq_true h.1.1.1
    subst e
    have hx := (Ix.e X tj sc os _ A h.1.1.2).v
    have hy := (Iy.e X tj sc os _ A h.1.2).v
    have hm := by simpa using h.2
    exact ⟨ed_cmp A.F hx hy hm, et_cmp A.F hx hy hm, fun _ _ _ e => by cases e⟩
  · cases h
theorem c_cmp2_e (hb : ∀ c ∈ bs, c ≤ b) (op : CmpOp) (op2 : CmpOp) (x : E) (y : E) (z : E) (Ix : All Γ N R k b bs x) (Iy : All Γ N R k b bs y) (Iz : All Γ N R k b bs z) : ∀ (X : Cx) (tj : Option Nat) (sc os : Scope) (ex : Expr), At Γ N R k bs tj X sc os → ck Γ N (E.cmp2 op op2 x y z) tj sc os ex = true → Sd X bs R b (E.cmp2 op op2 x y z) ex := by
  intro X tj sc os ex A h
  unfold ck at h
  split at h
  · simp only [Bool.and_eq_true] at h
    have e := of_decide_eq_true h.1.1.1.1.1
    subst e
    have e := of_decide_eq_true h.1.1.1.1.2
    subst e
    have hx := (Ix.e X tj sc os _ A h.1.1.1.2).v
    have hy := (Iy.e X tj sc os _ A h.1.1.2).v
    have hz := (Iz.e X tj sc os _ A h.1.2).v
    have hm := Bool.not_eq_true' _ ▸ h.2
    exact ⟨ed_cmp2 A.F hx hy hz hm, et_cmp2 A.F hx hy hz hm, fun _ _ _ e => by cases e⟩
  · cases h
theorem c_and_e (hb : ∀ c ∈ bs, c ≤ b) (x : E) (y : E) (Ix : All Γ N R k b bs x) (Iy : All Γ N R k b bs y) : ∀ (X : Cx) (tj : Option Nat) (sc os : Scope) (ex : Expr), At Γ N R k bs tj X sc os → ck Γ N (E.and x y) tj sc os ex = true → Sd X bs R b (E.and x y) ex := by
  intro X tj sc os ex A h
  unfold ck at h
  split at h
  · rw [Bool.and_eq_true] at h
    have hx := Ix.e X tj sc os _ A h.1
    have hy := Iy.e X tj sc os _ A h.2
    have hw := ew_and hx.t (hy.w _ _ _ rfl)
    exact ⟨ed_and hx.v hy.v, hw.pt, fun _ _ _ _ => hw⟩
  · cases h
theorem c_or_e (hb : ∀ c ∈ bs, c ≤ b) (x : E) (y : E) (Ix : All Γ N R k b bs x) (Iy : All Γ N R k b bs y) : ∀ (X : Cx) (tj : Option Nat) (sc os : Scope) (ex : Expr), At Γ N R k bs tj X sc os → ck Γ N (E.or x y) tj sc os ex = true → Sd X bs R b (E.or x y) ex := by
  intro X tj sc os ex A h
  unfold ck at h
  split at h
  · rw [Bool.and_eq_true] at h
    have hx := Ix.e X tj sc os _ A h.1
    have hy := Iy.e X tj sc os _ A h.2
    have hw := ew_or hx.t (hy.w _ _ _ rfl)
    exact ⟨ed_or hx.v hy.v, hw.pt, fun _ _ _ _ => hw⟩
  · cases h
theorem c_one_e (hb : ∀ c ∈ bs, c ≤ b) (x : E) (Ix : All Γ N R k b bs x) : ∀ (X : Cx) (tj : Option Nat) (sc os : Scope) (ex : Expr), At Γ N R k bs tj X sc os → ck Γ N (E.one x) tj sc os ex = true → Sd X bs R b (E.one x) ex := by
  intro X tj sc os ex A h
  unfold ck at h
  split at h
  · have hx := Ix.e X tj sc os _ A h
    exact ⟨ed_one hx.v, (ew_one hx.t).pt, fun _ _ _ _ => ew_one hx.t⟩
  · cases h
theorem c_not_e (hb : ∀ c ∈ bs, c ≤ b) (x : E) (Ix : All Γ N R k b bs x) : ∀ (X : Cx) (tj : Option Nat) (sc os : Scope) (ex : Expr), At Γ N R k bs tj X sc os → ck Γ N (E.not x) tj sc os ex = true → Sd X bs R b (E.not x) ex := by
  intro X tj sc os ex A h
  unfold ck at h
  split at h
  · have hx := Ix.e X tj sc os _ A h
    exact ⟨ed_not hx.v, et_not hx.t, fun _ _ _ e => by cases e⟩
  · cases h
theorem c_ite_e (hb : ∀ c ∈ bs, c ≤ b) (c : E) (x : E) (y : E) (Ic : All Γ N R k b bs c) (Ix : All Γ N R k b bs x) (Iy : All Γ N R k b bs y) : ∀ (X : Cx) (tj : Option Nat) (sc os : Scope) (ex : Expr), At Γ N R k bs tj X sc os → ck Γ N (E.ite c x y) tj sc os ex = true → Sd X bs R b (E.ite c x y) ex := by
  intro X tj sc os ex A h
  unfold ck at h
  split at h
  · simp only [Bool.and_eq_true] at h
    have hc := Ic.e X tj sc os _ A h.1.1
    have hx := Ix.e X tj sc os _ A h.1.2
    have hy := Iy.e X tj sc os _ A h.2
    exact ⟨ed_ite hc.t hx.v hy.v, et_ite hc.t hx.t hy.t, fun _ _ _ e => by cases e⟩
  · cases h
theorem c_ix_e (hb : ∀ c ∈ bs, c ≤ b) (x : E) (y : E) (Ix : All Γ N R k b bs x) (Iy : All Γ N R k b bs y) : ∀ (X : Cx) (tj : Option Nat) (sc os : Scope) (ex : Expr), At Γ N R k bs tj X sc os → ck Γ N (E.ix x y) tj sc os ex = true → Sd X bs R b (E.ix x y) ex := by
  intro X tj sc os ex A h
  unfold ck at h
  split at h
  · simp only [Bool.and_eq_true] at h
    exact .of (ed_ix A.F (Ix.e X tj sc os _ A h.1.1).v (Iy.e X tj sc os _ A h.1.2).v (noSl_ix h.2)) fun _ _ => rfl
  · cases h
theorem c_sl_e (hb : ∀ c ∈ bs, c ≤ b) (own : Bool) (x : E) (lo : E) (hi : E) (Ix : All Γ N R k b bs x) (Ilo : All Γ N R k b bs lo) (Ihi : All Γ N R k b bs hi) : ∀ (X : Cx) (tj : Option Nat) (sc os : Scope) (ex : Expr), At Γ N R k bs tj X sc os → ck Γ N (E.sl own x lo hi) tj sc os ex = true → Sd X bs R b (E.sl own x lo hi) ex := by
  intro X tj sc os ex A h
  unfold ck at h
  split at h
  · simp only [Bool.and_eq_true] at h
    exact .of (ed_sl (Ix.e X tj sc os _ A h.1.1).v (Ilo.p X tj sc os _ A h.1.2) (Ihi.p X tj sc os _ A h.2)) fun _ _ => rfl
  · cases h
theorem c_rev_e (hb : ∀ c ∈ bs, c ≤ b) (own : Bool) (x : E) (Ix : All Γ N R k b bs x) : ∀ (X : Cx) (tj : Option Nat) (sc os : Scope) (ex : Expr), At Γ N R k bs tj X sc os → ck Γ N (E.rev own x) tj sc os ex = true → Sd X bs R b (E.rev own x) ex := by
  intro X tj sc os ex A h
  unfold ck at h
  split at h
  · rw [Bool.and_eq_true] at h
    have e := of_decide_eq_true h.1
    subst e
    exact .of (ed_rev (Ix.e X tj sc os _ A h.2).v) fun _ _ => rfl
  · cases h
theorem c_call_e (hb : ∀ c ∈ bs, c ≤ b) (x : Str) (f : Nat) (es : E) (Ies : All Γ N R k b bs es) : ∀ (X : Cx) (tj : Option Nat) (sc os : Scope) (ex : Expr), At Γ N R k bs tj X sc os → ck Γ N (E.call x f es) tj sc os ex = true → Sd X bs R b (E.call x f es) ex := by
  intro X tj sc os ex A h
  unfold ck at h
  split at h
  · rename_i y p1 xs p2
    simp only [Bool.and_eq_true] at h
    have e := of_decide_eq_true h.1.1.1.1
    subst e
    obtain ⟨ha, hst, _⟩ := Ies.a X tj sc os _ A h.2
    cases xs with
    | nil =>
      have hn := ckA_nil h.2
      subst hn
      exact .of (ed_call0 A.G A.F hb (of_decide_eq_true h.1.1.1.2) (A.F.gl h.1.1.2) (okN_of h.1.2).1) fun _ _ => rfl
    | cons a xs =>
      rw [List.all_cons, Bool.and_eq_true] at hst
      exact .of (ed_call A.G A.F hb (of_decide_eq_true h.1.1.1.2) (A.F.gl h.1.1.2) (okN_of h.1.2).1 ha (noSt_star hst.1) (any_star hst.2)) fun _ _ => rfl
  · cases h
theorem c_callk_e (hb : ∀ c ∈ bs, c ≤ b) (x : Str) (f : Nat) (np : Nat) (ks : List Str) (perm : List Nat) (es : E) (ws : E) (Ies : All Γ N R k b bs es) (Iws : All Γ N R k b bs ws) : ∀ (X : Cx) (tj : Option Nat) (sc os : Scope) (ex : Expr), At Γ N R k bs tj X sc os → ck Γ N (E.callk x f np ks perm es ws) tj sc os ex = true → Sd X bs R b (E.callk x f np ks perm es ws) ex := by
  intro X tj sc os ex A h
  unfold ck at h
  split at h
  · simp only [Bool.and_eq_true] at h
    have e := of_decide_eq_true h.1.1.1.1.1.1
    subst e
    obtain ⟨ha, hst, _⟩ := Ies.a X tj sc os _ A h.1.2
    obtain ⟨hk, h1, h2, h3⟩ := Iws.kw X tj sc os ks _ A h.2
    refine .of (ed_callk A.G A.F hb (of_decide_eq_true h.1.1.1.1.1.2) (A.F.gl h.1.1.1.1.2) (of_decide_eq_true h.1.1.2) (okN_of h.1.1.1.2).1 ha hk (h1 _) (h2 _) (fun e r he => ?_) (fun he => ?_) ?_) fun _ _ => rfl
    · subst he
      rw [List.all_cons, Bool.and_eq_true] at hst
      exact noSt_star hst.1
    · subst he
      exact ckA_nil h.1.2
    · rw [any_star hst, h3]
      rfl
  · cases h
theorem c_bi_e (hb : ∀ c ∈ bs, c ≤ b) (f : BI) (own : Bool) (es : E) (Ies : All Γ N R k b bs es) : ∀ (X : Cx) (tj : Option Nat) (sc os : Scope) (ex : Expr), At Γ N R k bs tj X sc os → ck Γ N (E.bi f own es) tj sc os ex = true → Sd X bs R b (E.bi f own es) ex := by
  intro X tj sc os ex A h
  unfold ck at h
  split at h
  · simp only [Bool.and_eq_true] at h
    have e := of_decide_eq_true h.1.1.1
    subst e
    obtain ⟨ha, hst, _⟩ := Ies.a X tj sc os _ A h.2
    rw [List.all_cons, Bool.and_eq_true] at hst
    exact .of (ed_bi A.F (A.G.bt _ (of_decide_eq_true h.1.1.2)) (A.F.gl h.1.2) ha (noSt_star hst.1) (any_star hst.2)) fun _ _ => rfl
  · cases h
theorem c_me_e (hb : ∀ c ∈ bs, c ≤ b) (m : ME) (own : Bool) (o : E) (es : E) (Io : All Γ N R k b bs o) (Ies : All Γ N R k b bs es) : ∀ (X : Cx) (tj : Option Nat) (sc os : Scope) (ex : Expr), At Γ N R k bs tj X sc os → ck Γ N (E.me m own o es) tj sc os ex = true → Sd X bs R b (E.me m own o es) ex := by
  intro X tj sc os ex A h
  unfold ck at h
  split at h
  · rename_i a nm apos xs pos
    simp only [Bool.and_eq_true] at h
    obtain ⟨⟨⟨⟨⟨h1, h2⟩, h3⟩, h4⟩, h5⟩, h6⟩ := h
    have e1 := of_decide_eq_true h1
    subst e1
    have ho := (Io.e X tj sc os a A h4).v
    obtain ⟨ha, hst, _⟩ := Ies.a X tj sc os xs A h5
    have hbase : attributeBase a (meN m) X.env (eval a X.env) = eval a X.env := noC0_base h2
    have hline : (apos.endLine == pos.line) = true := by rw [of_decide_eq_true h3]; exact beq_self_eq_true _
    rcases xs with _ | ⟨x, _ | ⟨y, _ | ⟨z, xs⟩⟩⟩
    · have e2 := ckA_nil h5
      subst e2
      exact .of (ed_me0 hb h6 ho hbase hline) fun _ _ => rfl
    · rw [List.all_cons, Bool.and_eq_true] at hst
      cases es with
      | cons e es =>
        unfold ckA at h5
        simp only [Bool.and_eq_true] at h5
        have e2 := ckA_nil h5.2
        subst e2
        have hs1 : starEach [x] X.env = [(false, eval x X.env)] := noSt_star hst.1
        simp only [Bool.or_eq_true] at h6
        rcases h6 with h6 | h6
        · exact .of (ed_me1 hb (by rw [Bool.or_eq_true]; exact h6) ho ha hbase hline hs1) fun _ _ => rfl
        · have e3 := of_decide_eq_true h6
          subst e3
          refine .of (ed_get1 A.F ho ((Ies.c _ _ rfl).1 X tj sc os _ A h5.1.2).v ⟨hbase, ?_, hline, ?_⟩) fun _ _ => rfl
          · rw [hs1]; rfl
          · rw [hs1]; rfl
      | _ => unfold ckA at h5; cases h5
    · rw [List.all_cons, List.all_cons, Bool.and_eq_true, Bool.and_eq_true] at hst
      have e3 := of_decide_eq_true h6
      subst e3
      cases es with
      | cons e es =>
        unfold ckA at h5
        simp only [Bool.and_eq_true] at h5
        cases es with
        | cons f fs =>
          have h52 := h5.2
          unfold ckA at h52
          simp only [Bool.and_eq_true] at h52
          have e2 := ckA_nil h52.2
          subst e2
          have hs1 : starEach [x, y] X.env = [(false, eval x X.env), (false, eval y X.env)] := by rw [noSt_star hst.1, noSt_star hst.2.1]; rfl
          refine .of (ed_get2 A.F ho ((Ies.c _ _ rfl).1 X tj sc os _ A h5.1.2).v ((((Ies.c _ _ rfl).2) _ _ rfl) X tj sc os _ A h52.1.2).v ⟨hbase, ?_, hline, ?_⟩) fun _ _ => rfl
          · rw [hs1]; rfl
          · rw [hs1]; rfl
        | _ =>
          have h52 := h5.2
          unfold ckA at h52
          cases h52
      | _ => unfold ckA at h5; cases h5
    · cases h6
  · cases h
theorem c_lc_e (hb : ∀ c ∈ bs, c ≤ b) (ik : IK) (it : E) (t : T) (ts : E) (e : E) (vs : List Nat) (Iit : All Γ N R k b bs it) (Its : All Γ N R k b bs ts) (Ie : All Γ N R k b bs e) : ∀ (X : Cx) (tj : Option Nat) (sc os : Scope) (ex : Expr), At Γ N R k bs tj X sc os → ck Γ N (E.lc ik it t ts e vs) tj sc os ex = true → Sd X bs R b (E.lc ik it t ts e vs) ex := by
  intro X tj sc os ex A h
  unfold ck at h
  split at h
  · simp only [Bool.and_eq_true] at h
    obtain ⟨⟨⟨⟨⟨⟨⟨⟨h1, h2⟩, h3⟩, h4⟩, h5⟩, h6⟩, h7⟩, h8⟩, h9⟩ := h
    have e1 := of_decide_eq_true h1
    subst e1
    refine .of (ed_lc A.F.calm A.F.nd (Iit.i X tj sc os ik _ _ A h2) (blkOk_by (by rw [A.F.hN, A.F.hs]; exact h8)) (of_decide_eq_true h7) (fun i hi => of_decide_eq_true (List.all_eq_true.mp h9 i hi)) (fun s H C cl fp => ckTg_ok (A.F.blk s H _ C cl fp) t _ h4) (fun s H C cl fp => ?_) (fun s H C cl fp => ?_) (noSet_fold h3)) fun _ _ => rfl
    · exact Its.t _ _ _ _ _ (A.blk s H _ C cl fp) h5
    · exact (Ie.e _ _ _ _ _ (A.blk s H _ C cl fp) h6).v
  · cases h
theorem noFo_fold {x : Expr} {env : Env} (h : noFo x = true) : ∀ v, genFold x env v = pure v := by
  intro v
  cases x <;> first | rfl | exact absurd h Bool.false_ne_true
theorem c_all1_e (hb : ∀ c ∈ bs, c ≤ b) (ti : Nat) (ik : IK) (it : E) (t : T) (ts e : E) (vs : List Nat) (Iit : All Γ N R k b bs it) (Its : All Γ N R k b bs ts) (Ie : All Γ N R k b bs e) :
    ∀ (X : Cx) (tj : Option Nat) (sc os : Scope) (ex : Expr), At Γ N R k bs tj X sc os → ck Γ N (E.all1 ti ik it t ts e vs) tj sc os ex = true → Sd X bs R b (E.all1 ti ik it t ts e vs) ex := by
  intro X tj sc os ex A h
  unfold ck at h
  split at h
  · simp only [Bool.and_eq_true] at h
    obtain ⟨⟨⟨⟨⟨⟨⟨⟨⟨⟨⟨⟨⟨⟨⟨h1, h2⟩, h3⟩, h4⟩, h5⟩, h6⟩, h7⟩, h8⟩, h9⟩, h10⟩, h11⟩, h12⟩, h13⟩, h14⟩, h15⟩, h16⟩ := h
    have e1 := of_decide_eq_true h1
    subst e1
    have e2 := of_decide_eq_true h4
    subst e2
    have e3 := of_decide_eq_true h5
    subst e3
    rename_i p elt tg iter ifs scope gpos pos
    have nc : ∀ y ∈ scope.names, y.2 ≠ .cell := fun y hy => of_decide_eq_true (List.all_eq_true.mp h14 y hy)
    obtain ⟨hr, c, P, hP, TB, hcode⟩ := A.tab ti rfl
    have hco : scope.isCoroutine = false := by
      cases q : scope.isCoroutine with
      | false => rfl
      | true => rw [q] at h16; cases h16
    refine .of (PE.by (pe_all (c := c) (P := P) (k := k) (own := ownOf N vs) (wi := tX X.K bs (rW X.K bs) (evI R b ik it)) (g := tG X.K (asgT t) (tnm t)) (tt := tT X.K bs (evT R b ts)) (te := tE X.K bs (ev R b e)) A.F.room A.F.calm A.F.nd (A.F.gl h3) (A.G.bt _ (of_decide_eq_true h2)) (by decide +kernel) TB hcode
      (blkOk_by (by rw [A.F.hN, A.F.hs]; exact h12)) nc (of_decide_eq_true h15) hco (Iit.i X (some ti) sc os ik _ _ A h6) (fun s H code fp pn => ?_) (fun s H code fp pn => ?_) (fun s H code fp pn => ?_) (noFo_fold h7) rfl)
      (all_reads hP (of_decide_eq_true h11) fun i hi => of_decide_eq_true (List.all_eq_true.mp h13 i hi))) fun _ _ => rfl
    · exact ckTg_ok (A.gx s H scope _ code fp pn nc).F t _ h8
    · exact Its.t _ _ _ _ _ (A.gx s H scope _ code fp pn nc) h9
    · exact (Ie.e _ _ _ _ _ (A.gx s H scope _ code fp pn nc) h10).v
  · cases h
theorem ckD_ok {X : Cx} {tj : Option Nat} {sc os : Scope} (A : At Γ N R k bs tj X sc os) {pos : Pos} : ∀ (x : E) (keys : List (Option Expr)) (values : List Expr), (∀ y ∈ items x, ∀ (X : Cx) (tj : Option Nat) (sc os : Scope) (ex : Expr), At Γ N R k bs tj X sc os → ck Γ N y tj sc os ex = true → Sd X bs R b y ex) →
    ckD Γ N x tj sc os keys values = true → PPg X pos keys values (tpD X.K bs (evA R b x)) ∧ keys.all (·.isSome) = true ∧ keys.length = values.length
  | .nil, keys, values, _, h => by
    unfold ckD at h
    split at h
    · exact ⟨ppg_nil, rfl, rfl⟩
    · cases h
  | .cons a r, keys, values, hl, h => by
    unfold ckD at h
    split at h
    · rename_i v es
      split at h
      · rename_i x ks y vs
        simp only [Bool.and_eq_true] at h
        have h1 := hl a (List.mem_cons_self ..) X tj sc os _ A h.1.1
        have h2 := hl v (List.mem_cons_of_mem _ (List.mem_cons_self ..)) X tj sc os _ A h.1.2
        obtain ⟨h3, h4, h5⟩ := ckD_ok A (pos := pos) es ks vs (fun z hz => hl z (List.mem_cons_of_mem _ (List.mem_cons_of_mem _ hz))) h.2
        exact ⟨ppg_cons h1.v h2.v h3, by rw [List.all_cons, h4]; rfl, by rw [List.length_cons, List.length_cons, h5]⟩
      · cases h
    · cases h
  | .var _, _, _, _, h => Bool.noConfusion (show false = true from h)
  | .cint _, _, _, _, h => Bool.noConfusion (show false = true from h)
  | .cstr _, _, _, _, h => Bool.noConfusion (show false = true from h)
  | .cbl _, _, _, _, h => Bool.noConfusion (show false = true from h)
  | .cnon, _, _, _, h => Bool.noConfusion (show false = true from h)
  | .gl _ _, _, _, _, h => Bool.noConfusion (show false = true from h)
  | .bty _, _, _, _, h => Bool.noConfusion (show false = true from h)
  | .val _, _, _, _, h => Bool.noConfusion (show false = true from h)
  | .tup _, _, _, _, h => Bool.noConfusion (show false = true from h)
  | .lst _ _, _, _, _, h => Bool.noConfusion (show false = true from h)
  | .dnew _, _, _, _, h => Bool.noConfusion (show false = true from h)
  | .dsp _, _, _, _, h => Bool.noConfusion (show false = true from h)
  | .dst _ _, _, _, _, h => Bool.noConfusion (show false = true from h)
  | .bin _ _ _ _, _, _, _, h => Bool.noConfusion (show false = true from h)
  | .neg _, _, _, _, h => Bool.noConfusion (show false = true from h)
  | .cmp _ _ _, _, _, _, h => Bool.noConfusion (show false = true from h)
  | .cmp2 _ _ _ _ _, _, _, _, h => Bool.noConfusion (show false = true from h)
  | .and _ _, _, _, _, h => Bool.noConfusion (show false = true from h)
  | .or _ _, _, _, _, h => Bool.noConfusion (show false = true from h)
  | .one _, _, _, _, h => Bool.noConfusion (show false = true from h)
  | .not _, _, _, _, h => Bool.noConfusion (show false = true from h)
  | .ite _ _ _, _, _, _, h => Bool.noConfusion (show false = true from h)
  | .ix _ _, _, _, _, h => Bool.noConfusion (show false = true from h)
  | .sl _ _ _ _, _, _, _, h => Bool.noConfusion (show false = true from h)
  | .rev _ _, _, _, _, h => Bool.noConfusion (show false = true from h)
  | .call _ _ _, _, _, _, h => Bool.noConfusion (show false = true from h)
  | .callk _ _ _ _ _ _ _, _, _, _, h => Bool.noConfusion (show false = true from h)
  | .bi _ _ _, _, _, _, h => Bool.noConfusion (show false = true from h)
  | .me _ _ _ _, _, _, _, h => Bool.noConfusion (show false = true from h)
  | .lc _ _ _ _ _ _, _, _, _, h => Bool.noConfusion (show false = true from h)
  | .all1 _ _ _ _ _ _ _, _, _, _, h => Bool.noConfusion (show false = true from h)
theorem c_dsp_e (hb : ∀ c ∈ bs, c ≤ b) (es : E) (Ies : All Γ N R k b bs es) : ∀ (X : Cx) (tj : Option Nat) (sc os : Scope) (ex : Expr), At Γ N R k bs tj X sc os → ck Γ N (E.dsp es) tj sc os ex = true → Sd X bs R b (E.dsp es) ex := by
  intro X tj sc os ex A h
  unfold ck at h
  split at h
  · rw [Bool.and_eq_true, Bool.and_eq_true] at h
    obtain ⟨h1, h2, h3⟩ := ckD_ok A es _ _ Ies.l h.1.1
    refine .of (ed_dsp h1 h2 h3 (fun z => ?_) (Nat.le_of_ble_eq_true h.2)) fun _ _ => rfl
    have z2 := h.1.2
    rw [z] at z2
    cases z2
  · cases h
theorem c_dst_e (hb : ∀ c ∈ bs, c ≤ b) (e : E) (es : E) (Ie : All Γ N R k b bs e) (Ies : All Γ N R k b bs es) : ∀ (X : Cx) (tj : Option Nat) (sc os : Scope) (ex : Expr), At Γ N R k bs tj X sc os → ck Γ N (E.dst e es) tj sc os ex = true → Sd X bs R b (E.dst e es) ex := by
  intro X tj sc os ex A h
  unfold ck at h
  split at h
  · rw [Bool.and_eq_true, Bool.and_eq_true, Bool.and_eq_true] at h
    obtain ⟨h1, h2, h3⟩ := ckD_ok A es _ _ Ies.l h.2.1.1
    refine .of (ed_dst (Ie.e X tj sc os _ A h.1).v h1 h2 h3 (fun z => ?_) (Nat.le_of_ble_eq_true h.2.2)) fun _ _ => rfl
    have z2 := h.2.1.2
    rw [z] at z2
    cases z2
  · cases h
theorem all_ok (hb : ∀ c ∈ bs, c ≤ b) (x : E) : All Γ N R k b bs x := by
  induction x with
  | var i => exact ⟨c_var_e hb i, fun _ _ _ _ _ _ h => Bool.noConfusion (show false = true from h), fun _ _ _ _ _ _ _ h => Bool.noConfusion (show false = true from h), fun _ _ _ _ _ _ h => Bool.noConfusion (show false = true from h), fun _ _ _ _ _ _ h => Bool.noConfusion (show false = true from h), fun _ _ _ _ _ _ _ _ h => Bool.noConfusion (show false = true from h), fun _ _ h => (by cases h), fun _ h => nomatch (show _ ∈ ([] : List E) from h)⟩
  | cint i => exact ⟨c_cint_e hb i, fun _ _ _ _ _ _ h => Bool.noConfusion (show false = true from h), fun _ _ _ _ _ _ _ h => Bool.noConfusion (show false = true from h), fun _ _ _ _ _ _ h => Bool.noConfusion (show false = true from h), fun _ _ _ _ _ _ h => Bool.noConfusion (show false = true from h), fun _ _ _ _ _ _ _ _ h => Bool.noConfusion (show false = true from h), fun _ _ h => (by cases h), fun _ h => nomatch (show _ ∈ ([] : List E) from h)⟩
  | cstr i => exact ⟨c_cstr_e hb i, fun _ _ _ _ _ _ h => Bool.noConfusion (show false = true from h), fun _ _ _ _ _ _ _ h => Bool.noConfusion (show false = true from h), fun _ _ _ _ _ _ h => Bool.noConfusion (show false = true from h), fun _ _ _ _ _ _ h => Bool.noConfusion (show false = true from h), fun _ _ _ _ _ _ _ _ h => Bool.noConfusion (show false = true from h), fun _ _ h => (by cases h), fun _ h => nomatch (show _ ∈ ([] : List E) from h)⟩
  | cbl i => exact ⟨c_cbl_e hb i, fun _ _ _ _ _ _ h => Bool.noConfusion (show false = true from h), fun _ _ _ _ _ _ _ h => Bool.noConfusion (show false = true from h), fun _ _ _ _ _ _ h => Bool.noConfusion (show false = true from h), fun _ _ _ _ _ _ h => Bool.noConfusion (show false = true from h), fun _ _ _ _ _ _ _ _ h => Bool.noConfusion (show false = true from h), fun _ _ h => (by cases h), fun _ h => nomatch (show _ ∈ ([] : List E) from h)⟩
  | cnon => exact ⟨c_cnon_e hb, fun _ _ _ _ _ _ h => Bool.noConfusion (show false = true from h), fun _ _ _ _ _ _ _ h => Bool.noConfusion (show false = true from h), fun _ _ _ _ _ _ h => Bool.noConfusion (show false = true from h), fun _ _ _ _ _ _ h => Bool.noConfusion (show false = true from h), fun _ _ _ _ _ _ _ _ h => Bool.noConfusion (show false = true from h), fun _ _ h => (by cases h), fun _ h => nomatch (show _ ∈ ([] : List E) from h)⟩
  | gl x j => exact ⟨c_gl_e hb x j, fun _ _ _ _ _ _ h => Bool.noConfusion (show false = true from h), fun _ _ _ _ _ _ _ h => Bool.noConfusion (show false = true from h), fun _ _ _ _ _ _ h => Bool.noConfusion (show false = true from h), fun _ _ _ _ _ _ h => Bool.noConfusion (show false = true from h), fun _ _ _ _ _ _ _ _ h => Bool.noConfusion (show false = true from h), fun _ _ h => (by cases h), fun _ h => nomatch (show _ ∈ ([] : List E) from h)⟩
  | bty t => exact ⟨c_bty_e hb t, fun _ _ _ _ _ _ h => Bool.noConfusion (show false = true from h), fun _ _ _ _ _ _ _ h => Bool.noConfusion (show false = true from h), fun _ _ _ _ _ _ h => Bool.noConfusion (show false = true from h), fun _ _ _ _ _ _ h => Bool.noConfusion (show false = true from h), fun _ _ _ _ _ _ _ _ h => Bool.noConfusion (show false = true from h), fun _ _ h => (by cases h), fun _ h => nomatch (show _ ∈ ([] : List E) from h)⟩
  | nil => exact ⟨fun _ _ _ _ _ _ h => Bool.noConfusion (show false = true from h), c_nil_a hb, c_nil_kw hb, c_nil_p hb, c_nil_t hb, fun _ _ _ _ _ _ _ _ h => Bool.noConfusion (show false = true from h), fun _ _ h => (by cases h), fun _ h => nomatch (show _ ∈ ([] : List E) from h)⟩
  | cons e es Ie Ies => exact ⟨fun _ _ _ _ _ _ h => Bool.noConfusion (show false = true from h), c_cons_a hb e es Ie Ies, c_cons_kw hb e es Ie Ies, fun _ _ _ _ _ _ h => Bool.noConfusion (show false = true from h), c_cons_t hb e es Ie Ies, c_cons_i hb e es Ie Ies, fun e0 es0 h => by cases h; exact ⟨Ie.e, fun f fs h2 => (Ies.c f fs h2).1⟩, fun y hy => (List.mem_cons.mp (show y ∈ e :: items es from hy)).elim (fun z => by subst z; exact Ie.e) (fun z => Ies.l y z)⟩
  | val x Ix => exact ⟨c_val_e hb x Ix, fun _ _ _ _ _ _ h => Bool.noConfusion (show false = true from h), fun _ _ _ _ _ _ _ h => Bool.noConfusion (show false = true from h), c_val_p hb x Ix, fun _ _ _ _ _ _ h => Bool.noConfusion (show false = true from h), fun _ _ _ _ _ _ _ _ h => Bool.noConfusion (show false = true from h), fun _ _ h => (by cases h), fun _ h => nomatch (show _ ∈ ([] : List E) from h)⟩
  | tup es Ies => exact ⟨c_tup_e hb es Ies, fun _ _ _ _ _ _ h => Bool.noConfusion (show false = true from h), fun _ _ _ _ _ _ _ h => Bool.noConfusion (show false = true from h), fun _ _ _ _ _ _ h => Bool.noConfusion (show false = true from h), fun _ _ _ _ _ _ h => Bool.noConfusion (show false = true from h), fun _ _ _ _ _ _ _ _ h => Bool.noConfusion (show false = true from h), fun _ _ h => (by cases h), fun _ h => nomatch (show _ ∈ ([] : List E) from h)⟩
  | lst own es Ies => exact ⟨c_lst_e hb own es Ies, fun _ _ _ _ _ _ h => Bool.noConfusion (show false = true from h), fun _ _ _ _ _ _ _ h => Bool.noConfusion (show false = true from h), fun _ _ _ _ _ _ h => Bool.noConfusion (show false = true from h), fun _ _ _ _ _ _ h => Bool.noConfusion (show false = true from h), fun _ _ _ _ _ _ _ _ h => Bool.noConfusion (show false = true from h), fun _ _ h => (by cases h), fun _ h => nomatch (show _ ∈ ([] : List E) from h)⟩
  | dnew own => exact ⟨c_dnew_e hb own, fun _ _ _ _ _ _ h => Bool.noConfusion (show false = true from h), fun _ _ _ _ _ _ _ h => Bool.noConfusion (show false = true from h), fun _ _ _ _ _ _ h => Bool.noConfusion (show false = true from h), fun _ _ _ _ _ _ h => Bool.noConfusion (show false = true from h), fun _ _ _ _ _ _ _ _ h => Bool.noConfusion (show false = true from h), fun _ _ h => (by cases h), fun _ h => nomatch (show _ ∈ ([] : List E) from h)⟩
  | dsp es Ies => exact ⟨c_dsp_e hb es Ies, fun _ _ _ _ _ _ h => Bool.noConfusion (show false = true from h), fun _ _ _ _ _ _ _ h => Bool.noConfusion (show false = true from h), fun _ _ _ _ _ _ h => Bool.noConfusion (show false = true from h), fun _ _ _ _ _ _ h => Bool.noConfusion (show false = true from h), fun _ _ _ _ _ _ _ _ h => Bool.noConfusion (show false = true from h), fun _ _ h => (by cases h), fun _ h => nomatch (show _ ∈ ([] : List E) from h)⟩
  | dst e es Ie Ies => exact ⟨c_dst_e hb e es Ie Ies, fun _ _ _ _ _ _ h => Bool.noConfusion (show false = true from h), fun _ _ _ _ _ _ _ h => Bool.noConfusion (show false = true from h), fun _ _ _ _ _ _ h => Bool.noConfusion (show false = true from h), fun _ _ _ _ _ _ h => Bool.noConfusion (show false = true from h), fun _ _ _ _ _ _ _ _ h => Bool.noConfusion (show false = true from h), fun _ _ h => (by cases h), fun _ h => nomatch (show _ ∈ ([] : List E) from h)⟩
  | bin own op x y Ix Iy => exact ⟨c_bin_e hb own op x y Ix Iy, fun _ _ _ _ _ _ h => Bool.noConfusion (show false = true from h), fun _ _ _ _ _ _ _ h => Bool.noConfusion (show false = true from h), fun _ _ _ _ _ _ h => Bool.noConfusion (show false = true from h), fun _ _ _ _ _ _ h => Bool.noConfusion (show false = true from h), fun _ _ _ _ _ _ _ _ h => Bool.noConfusion (show false = true from h), fun _ _ h => (by cases h), fun _ h => nomatch (show _ ∈ ([] : List E) from h)⟩
  | neg x Ix => exact ⟨c_neg_e hb x Ix, fun _ _ _ _ _ _ h => Bool.noConfusion (show false = true from h), fun _ _ _ _ _ _ _ h => Bool.noConfusion (show false = true from h), fun _ _ _ _ _ _ h => Bool.noConfusion (show false = true from h), fun _ _ _ _ _ _ h => Bool.noConfusion (show false = true from h), fun _ _ _ _ _ _ _ _ h => Bool.noConfusion (show false = true from h), fun _ _ h => (by cases h), fun _ h => nomatch (show _ ∈ ([] : List E) from h)⟩
  | cmp op x y Ix Iy => exact ⟨c_cmp_e hb op x y Ix Iy, fun _ _ _ _ _ _ h => Bool.noConfusion (show false = true from h), fun _ _ _ _ _ _ _ h => Bool.noConfusion (show false = true from h), fun _ _ _ _ _ _ h => Bool.noConfusion (show false = true from h), fun _ _ _ _ _ _ h => Bool.noConfusion (show false = true from h), fun _ _ _ _ _ _ _ _ h => Bool.noConfusion (show false = true from h), fun _ _ h => (by cases h), fun _ h => nomatch (show _ ∈ ([] : List E) from h)⟩
  | cmp2 op op2 x y z Ix Iy Iz => exact ⟨c_cmp2_e hb op op2 x y z Ix Iy Iz, fun _ _ _ _ _ _ h => Bool.noConfusion (show false = true from h), fun _ _ _ _ _ _ _ h => Bool.noConfusion (show false = true from h), fun _ _ _ _ _ _ h => Bool.noConfusion (show false = true from h), fun _ _ _ _ _ _ h => Bool.noConfusion (show false = true from h), fun _ _ _ _ _ _ _ _ h => Bool.noConfusion (show false = true from h), fun _ _ h => (by cases h), fun _ h => nomatch (show _ ∈ ([] : List E) from h)⟩
  | and x y Ix Iy => exact ⟨c_and_e hb x y Ix Iy, fun _ _ _ _ _ _ h => Bool.noConfusion (show false = true from h), fun _ _ _ _ _ _ _ h => Bool.noConfusion (show false = true from h), fun _ _ _ _ _ _ h => Bool.noConfusion (show false = true from h), fun _ _ _ _ _ _ h => Bool.noConfusion (show false = true from h), fun _ _ _ _ _ _ _ _ h => Bool.noConfusion (show false = true from h), fun _ _ h => (by cases h), fun _ h => nomatch (show _ ∈ ([] : List E) from h)⟩
  | or x y Ix Iy => exact ⟨c_or_e hb x y Ix Iy, fun _ _ _ _ _ _ h => Bool.noConfusion (show false = true from h), fun _ _ _ _ _ _ _ h => Bool.noConfusion (show false = true from h), fun _ _ _ _ _ _ h => Bool.noConfusion (show false = true from h), fun _ _ _ _ _ _ h => Bool.noConfusion (show false = true from h), fun _ _ _ _ _ _ _ _ h => Bool.noConfusion (show false = true from h), fun _ _ h => (by cases h), fun _ h => nomatch (show _ ∈ ([] : List E) from h)⟩
  | one x Ix => exact ⟨c_one_e hb x Ix, fun _ _ _ _ _ _ h => Bool.noConfusion (show false = true from h), fun _ _ _ _ _ _ _ h => Bool.noConfusion (show false = true from h), fun _ _ _ _ _ _ h => Bool.noConfusion (show false = true from h), fun _ _ _ _ _ _ h => Bool.noConfusion (show false = true from h), fun _ _ _ _ _ _ _ _ h => Bool.noConfusion (show false = true from h), fun _ _ h => (by cases h), fun _ h => nomatch (show _ ∈ ([] : List E) from h)⟩
  | not x Ix => exact ⟨c_not_e hb x Ix, fun _ _ _ _ _ _ h => Bool.noConfusion (show false = true from h), fun _ _ _ _ _ _ _ h => Bool.noConfusion (show false = true from h), fun _ _ _ _ _ _ h => Bool.noConfusion (show false = true from h), fun _ _ _ _ _ _ h => Bool.noConfusion (show false = true from h), fun _ _ _ _ _ _ _ _ h => Bool.noConfusion (show false = true from h), fun _ _ h => (by cases h), fun _ h => nomatch (show _ ∈ ([] : List E) from h)⟩
  | ite c x y Ic Ix Iy => exact ⟨c_ite_e hb c x y Ic Ix Iy, fun _ _ _ _ _ _ h => Bool.noConfusion (show false = true from h), fun _ _ _ _ _ _ _ h => Bool.noConfusion (show false = true from h), fun _ _ _ _ _ _ h => Bool.noConfusion (show false = true from h), fun _ _ _ _ _ _ h => Bool.noConfusion (show false = true from h), fun _ _ _ _ _ _ _ _ h => Bool.noConfusion (show false = true from h), fun _ _ h => (by cases h), fun _ h => nomatch (show _ ∈ ([] : List E) from h)⟩
  | ix x y Ix Iy => exact ⟨c_ix_e hb x y Ix Iy, fun _ _ _ _ _ _ h => Bool.noConfusion (show false = true from h), fun _ _ _ _ _ _ _ h => Bool.noConfusion (show false = true from h), fun _ _ _ _ _ _ h => Bool.noConfusion (show false = true from h), fun _ _ _ _ _ _ h => Bool.noConfusion (show false = true from h), fun _ _ _ _ _ _ _ _ h => Bool.noConfusion (show false = true from h), fun _ _ h => (by cases h), fun _ h => nomatch (show _ ∈ ([] : List E) from h)⟩
  | sl own x lo hi Ix Ilo Ihi => exact ⟨c_sl_e hb own x lo hi Ix Ilo Ihi, fun _ _ _ _ _ _ h => Bool.noConfusion (show false = true from h), fun _ _ _ _ _ _ _ h => Bool.noConfusion (show false = true from h), fun _ _ _ _ _ _ h => Bool.noConfusion (show false = true from h), fun _ _ _ _ _ _ h => Bool.noConfusion (show false = true from h), fun _ _ _ _ _ _ _ _ h => Bool.noConfusion (show false = true from h), fun _ _ h => (by cases h), fun _ h => nomatch (show _ ∈ ([] : List E) from h)⟩
  | rev own x Ix => exact ⟨c_rev_e hb own x Ix, fun _ _ _ _ _ _ h => Bool.noConfusion (show false = true from h), fun _ _ _ _ _ _ _ h => Bool.noConfusion (show false = true from h), fun _ _ _ _ _ _ h => Bool.noConfusion (show false = true from h), fun _ _ _ _ _ _ h => Bool.noConfusion (show false = true from h), fun _ _ _ _ _ _ _ _ h => Bool.noConfusion (show false = true from h), fun _ _ h => (by cases h), fun _ h => nomatch (show _ ∈ ([] : List E) from h)⟩
  | call x f es Ies => exact ⟨c_call_e hb x f es Ies, fun _ _ _ _ _ _ h => Bool.noConfusion (show false = true from h), fun _ _ _ _ _ _ _ h => Bool.noConfusion (show false = true from h), fun _ _ _ _ _ _ h => Bool.noConfusion (show false = true from h), fun _ _ _ _ _ _ h => Bool.noConfusion (show false = true from h), fun _ _ _ _ _ _ _ _ h => Bool.noConfusion (show false = true from h), fun _ _ h => (by cases h), fun _ h => nomatch (show _ ∈ ([] : List E) from h)⟩
  | callk x f np ks perm es ws Ies Iws => exact ⟨c_callk_e hb x f np ks perm es ws Ies Iws, fun _ _ _ _ _ _ h => Bool.noConfusion (show false = true from h), fun _ _ _ _ _ _ _ h => Bool.noConfusion (show false = true from h), fun _ _ _ _ _ _ h => Bool.noConfusion (show false = true from h), fun _ _ _ _ _ _ h => Bool.noConfusion (show false = true from h), fun _ _ _ _ _ _ _ _ h => Bool.noConfusion (show false = true from h), fun _ _ h => (by cases h), fun _ h => nomatch (show _ ∈ ([] : List E) from h)⟩
  | bi f own es Ies => exact ⟨c_bi_e hb f own es Ies, fun _ _ _ _ _ _ h => Bool.noConfusion (show false = true from h), fun _ _ _ _ _ _ _ h => Bool.noConfusion (show false = true from h), fun _ _ _ _ _ _ h => Bool.noConfusion (show false = true from h), fun _ _ _ _ _ _ h => Bool.noConfusion (show false = true from h), fun _ _ _ _ _ _ _ _ h => Bool.noConfusion (show false = true from h), fun _ _ h => (by cases h), fun _ h => nomatch (show _ ∈ ([] : List E) from h)⟩
  | me m own o es Io Ies => exact ⟨c_me_e hb m own o es Io Ies, fun _ _ _ _ _ _ h => Bool.noConfusion (show false = true from h), fun _ _ _ _ _ _ _ h => Bool.noConfusion (show false = true from h), fun _ _ _ _ _ _ h => Bool.noConfusion (show false = true from h), fun _ _ _ _ _ _ h => Bool.noConfusion (show false = true from h), fun _ _ _ _ _ _ _ _ h => Bool.noConfusion (show false = true from h), fun _ _ h => (by cases h), fun _ h => nomatch (show _ ∈ ([] : List E) from h)⟩
  | lc ik it t ts e vs Iit Its Ie => exact ⟨c_lc_e hb ik it t ts e vs Iit Its Ie, fun _ _ _ _ _ _ h => Bool.noConfusion (show false = true from h), fun _ _ _ _ _ _ _ h => Bool.noConfusion (show false = true from h), fun _ _ _ _ _ _ h => Bool.noConfusion (show false = true from h), fun _ _ _ _ _ _ h => Bool.noConfusion (show false = true from h), fun _ _ _ _ _ _ _ _ h => Bool.noConfusion (show false = true from h), fun _ _ h => (by cases h), fun _ h => nomatch (show _ ∈ ([] : List E) from h)⟩
  | all1 ti ik it t ts e vs Iit Its Ie => exact ⟨c_all1_e hb ti ik it t ts e vs Iit Its Ie, fun _ _ _ _ _ _ h => Bool.noConfusion (show false = true from h), fun _ _ _ _ _ _ _ h => Bool.noConfusion (show false = true from h), fun _ _ _ _ _ _ h => Bool.noConfusion (show false = true from h), fun _ _ _ _ _ _ h => Bool.noConfusion (show false = true from h), fun _ _ _ _ _ _ _ _ h => Bool.noConfusion (show false = true from h), fun _ _ h => (by cases h), fun _ h => nomatch (show _ ∈ ([] : List E) from h)⟩
end
end Mi
end
section
/-! Mi, part 19: statements checked. -/
namespace Mi
open PySem PySem.Spec PyProof.Rows L2
theorem sw2 {env : Env} {x y : Str} {px py pt : Pos} {kt k2 : Nat} {pt2 : Pos} {a b : Expr} (hk : env.blockKind = .function) (hx : env.kindOf x = some .local) (hy : env.kindOf y = some .local) (hl : py.line = px.line) (hxy : x ≠ y) (n1 : noSt a = true) (n2 : noSt b = true)
    (hf : [a, b].all (foldedForSure 8) = false) (hc : [a, b].all (constantsAlone 8) = false) : swappedStores [.Tuple [.Name x px, .Name y py] kt pt] (.Tuple [a, b] k2 pt2) env = pure (some [x, y]) := by
  have e1 : [x, y].eraseDups = [x, y] := by
    have : (y == x) = false := by simpa using fun e => hxy e.symm
    simp [List.eraseDups_cons, this]
  unfold swappedStores
  simp only [List.any_cons, hk, hf, hc, Expr.pos, List.filterMap_cons, hx, hy, hl, List.head?_cons, Option.map_some, Option.getD_some, beq_self_eq_true, List.filterMap_nil, List.length_cons, List.length_nil, List.any_nil, Bool.and_self, if_true, e1]
  rw [if_neg (by decide), if_neg (fun h => ?_)]
  · rfl
  · simp only [Bool.or_eq_true, Bool.false_eq_true, or_false] at h
    rcases h with h | h
    · cases a <;> first | exact absurd n1 Bool.false_ne_true | exact absurd h Bool.false_ne_true
    · cases b <;> first | exact absurd n2 Bool.false_ne_true | exact absurd h Bool.false_ne_true
theorem sw3 {env : Env} {x y z : Str} {px py pz pt : Pos} {kt k2 : Nat} {pt2 : Pos} {a b c : Expr} (hk : env.blockKind = .function) (hx : env.kindOf x = some .local) (hy : env.kindOf y = some .local) (hz : env.kindOf z = some .local) (hl : py.line = px.line) (hl2 : pz.line = px.line) (hxy : x ≠ y) (hxz : x ≠ z) (hyz : y ≠ z) (n1 : noSt a = true) (n2 : noSt b = true) (n3 : noSt c = true)
    (hf : [a, b, c].all (foldedForSure 8) = false) (hc : [a, b, c].all (constantsAlone 8) = false) : swappedStores [.Tuple [.Name x px, .Name y py, .Name z pz] kt pt] (.Tuple [a, b, c] k2 pt2) env = pure (some [x, y, z]) := by
  have e1 : [x, y, z].eraseDups = [x, y, z] := by
    have h1 : (y == x) = false := by simpa using fun e => hxy e.symm
    have h2 : (z == x) = false := by simpa using fun e => hxz e.symm
    have h3 : (z == y) = false := by simpa using fun e => hyz e.symm
    simp [List.eraseDups_cons, h1, h2, h3]
  unfold swappedStores
  simp only [List.any_cons, hk, hf, hc, Expr.pos, List.filterMap_cons, hx, hy, hz, hl, hl2, List.head?_cons, Option.map_some, Option.getD_some, beq_self_eq_true, List.filterMap_nil, List.length_cons, List.length_nil, List.any_nil, Bool.and_self, if_true, e1]
  rw [if_neg (by decide), if_neg (fun h => ?_)]
  · rfl
  · simp only [Bool.or_eq_true, Bool.false_eq_true, or_false] at h
    rcases h with h | h | h
    · cases a <;> first | exact absurd n1 Bool.false_ne_true | exact absurd h Bool.false_ne_true
    · cases b <;> first | exact absurd n2 Bool.false_ne_true | exact absurd h Bool.false_ne_true
    · cases c <;> first | exact absurd n3 Bool.false_ne_true | exact absurd h Bool.false_ne_true
theorem swF {env : Env} {ts vs : List Expr} {pt : Pos} {kt k2 : Nat} {pt2 : Pos} (hf : vs.all (foldedForSure 8) = true) : swappedStores [.Tuple ts kt pt] (.Tuple vs k2 pt2) env = pure none := by
  unfold swappedStores
  simp only [hf]
  split
  · rfl
  · split
    · rfl
    · split
      · rfl
      · rfl
theorem swL {env : Env} {ts vs : List Expr} {pt : Pos} {kt k2 : Nat} {pt2 : Pos} (hf : (!(ts.length == 2 || ts.length == 3) || vs.length != ts.length) = true) : swappedStores [.Tuple ts kt pt] (.Tuple vs k2 pt2) env = pure none := by
  unfold swappedStores
  simp only [hf, Bool.true_or]
  rfl

def noCp : Expr → Bool
  | .ListComp _ _ _ _ => false
  | .SetComp _ _ _ _ => false
  | .DictComp _ _ _ _ _ => false
  | _ => true
/-- name = a comprehension: the stores are exchanged -/
def swpA (sc : Scope) (y : Str) (py : Pos) (scope : Scope) (pos : Pos) : Bool :=
  decide (sc.names.lookup y = some .local) && (py.line == pos.line) && !(scope.names.any fun nk => nk.1 == y && (nk.2 == .local || nk.2 == .cell))
theorem swX {env : Env} {elt : Expr} {gs : List Comprehension} {scope : Scope} {pos py : Pos} {y : Str} {l : Nat} (hk : env.scope.kind = .function) (h : swpA env.scope y py scope pos = false) : swapsWith (.ListComp elt gs scope pos) (some (.Name y py)) l env = pure false := by
  have hb : env.blockKind = .function := by
    unfold Env.blockKind
    rw [hk]
    rfl
  have e : (env.blockKind == .function && env.kindOf y == some .local && py.line == pos.line && !(scope.names.any fun (n, k) => n == y && (k == .local || k == .cell))) = false := by
    rw [hb]
    unfold swpA at h
    have e1 : (env.kindOf y == some .local) = decide (env.scope.names.lookup y = some .local) := by
      show (env.scope.names.lookup y == some .local) = _
      exact Bool.beq_eq_decide_eq _ _
    rw [e1]
    exact h
  have e2 : swapsWith (.ListComp elt gs scope pos) (some (.Name y py)) l env = pure (env.blockKind == .function && env.kindOf y == some .local && py.line == pos.line && !(scope.names.any fun (n, k) => n == y && (k == .local || k == .cell))) := rfl
  rw [e2, e]
/-- a local name in that row -/
def nmB (sc : Scope) (line : Nat) : Expr → Bool
  | .Name id pos => sc.names.lookup id == some .local && pos.line == line
  | _ => false
theorem fm_len {f : Expr → Option Str} {p : Expr → Bool} (hf : ∀ t, p t = false → f t = none) : ∀ ts : List Expr, (ts.filterMap f).length ≤ ts.length ∧ (ts.all p = false → (ts.filterMap f).length < ts.length)
  | [] => ⟨Nat.le_refl _, fun h => by cases h⟩
  | t :: ts => by
    obtain ⟨h1, h2⟩ := fm_len hf ts
    cases e : f t with
    | none =>
      rw [List.filterMap_cons_none e]
      exact ⟨Nat.le_succ_of_le h1, fun _ => Nat.lt_succ_of_le h1⟩
    | some a =>
      rw [List.filterMap_cons_some e]
      refine ⟨Nat.succ_le_succ h1, fun h => ?_⟩
      have hp : p t = true := by
        cases q : p t with
        | true => rfl
        | false => rw [hf t q] at e; cases e
      rw [List.all_cons, hp] at h
      exact Nat.succ_lt_succ (h2 h)
theorem swC {env : Env} {ts vs : List Expr} {pt : Pos} {kt k2 : Nat} {pt2 : Pos} (h : ts.all (nmB env.scope ((ts.head?.map (·.pos.line)).getD 0)) = false) : swappedStores [.Tuple ts kt pt] (.Tuple vs k2 pt2) env = pure none := by
  have key : ∀ f : Expr → Option Str, (∀ t, nmB env.scope ((ts.head?.map (·.pos.line)).getD 0) t = false → f t = none) → ((ts.filterMap f).length != ts.length) = true := by
    intro f hf
    have := (fm_len hf ts).2 h
    rw [bne_iff_ne]
    omega
  unfold swappedStores
  simp only
  split
  · rfl
  · split
    · rfl
    · rw [if_pos]
      rw [key, Bool.true_or]
      intro t ht
      cases t with
      | Name id pos =>
        have ht' : (env.scope.names.lookup id == some .local && pos.line == ((ts.head?.map (·.pos.line)).getD 0)) = false := ht
        show (if (env.scope.names.lookup id == some .local && pos.line == ((ts.head?.map (·.pos.line)).getD 0)) = true then some id else none) = none
        rw [ht']
        rfl
      | _ => rfl
/-- an assignment that stores as it stands -/
def plainA (sc : Scope) (tg x : Expr) : Bool :=
  (noCp x || (match tg with
    | .Tuple _ _ _ => true
    | .Subscript _ _ _ => true
    | .Name y py => (match x with
      | .ListComp _ _ scope pos => !swpA sc y py scope pos
      | _ => false)
    | _ => false)) &&
  match tg with
  | .Tuple ts _ _ => (match x with
    | .Tuple vs _ _ => (!(ts.length == 2 || ts.length == 3) || vs.length != ts.length) || vs.all (foldedForSure 8) || !(ts.all (nmB sc ((ts.head?.map (·.pos.line)).getD 0)))
    | _ => true)
  | .List _ _ => false
  | _ => true
theorem plainA_of {tg x : Expr} {line : Nat} {env : Env} (hk : env.scope.kind = .function) (h : plainA env.scope tg x = true) : swapsWithSole [tg] x line env = pure false ∧ swappedStores [tg] x env = pure none := by
  unfold plainA at h
  rw [Bool.and_eq_true, Bool.or_eq_true] at h
  obtain ⟨h1, h2⟩ := h
  constructor
  · rcases h1 with h1 | h1
    · cases x <;> first | rfl | exact absurd h1 Bool.false_ne_true
    · cases tg with
      | Name y py =>
        cases x with
        | ListComp elt gs scope pos =>
          have h3 : (!swpA env.scope y py scope pos) = true := h1
          have h4 : swpA env.scope y py scope pos = false := by
            cases q : swpA env.scope y py scope pos with
            | false => rfl
            | true => rw [q] at h3; cases h3
          exact swX (l := line) hk h4
        | _ => exact absurd h1 Bool.false_ne_true
      | Tuple ts k p => cases x <;> rfl
      | Subscript a c p => cases x <;> rfl
      | _ => exact absurd h1 Bool.false_ne_true
  · cases tg with
    | Tuple ts k p =>
      cases x with
      | Tuple vs k2 p2 =>
        have h3 : ((!(ts.length == 2 || ts.length == 3) || vs.length != ts.length) || vs.all (foldedForSure 8) || !(ts.all (nmB env.scope ((ts.head?.map (·.pos.line)).getD 0)))) = true := h2
        rw [Bool.or_eq_true, Bool.or_eq_true] at h3
        rcases h3 with (h3 | h3) | h3
        · exact swL h3
        · exact swF h3
        · refine swC ?_
          cases q : ts.all (nmB env.scope ((ts.head?.map (·.pos.line)).getD 0)) with
          | false => rfl
          | true => rw [q] at h3; cases h3
      | _ => rfl
    | List ts p => exact absurd h2 Bool.false_ne_true
    | _ => cases x <;> rfl
mutual
def ckS (Γ : Gam) (N : List Str) (tj : Option Nat) (sc : Scope) : S → Stmt → Bool
  | .skip, st => match st with
    | .Pass _ => true
    | .Expr (.Constant (.str _) _ _) _ => true
    | _ => false
  | .seq _ _, _ => false
  | .asg t e, st => match st with
    | .Assign [tg] x _ => ckTg N sc t tg && noSt tg && ck Γ N e tj sc sc x && plainA sc tg x
    | _ => false
  | .asgc i ik it t ts e vs, st => match st with
    | .Assign [.Name y py] (.ListComp elt [⟨tg, iter, ifs, ay⟩] scope pos) _ => decide (N[i]? = some y) && swpA sc y py scope pos && decide (ay = 0) && ckI Γ N it tj sc sc ik tg iter && noSet iter && ckTg N scope t tg && ckT Γ N ts tj (relS scope sc) scope ifs && ck Γ N e tj (relS scope sc) scope elt &&
        decide ((ownOf N vs).map (·.2) = vs) && blkC N sc scope (ownOf N vs) && (tnm t).all fun i => decide (i ∈ vs)
    | _ => false
  | .par is es, st => match st with
    | .Assign [.Tuple ts _ _] (.Tuple vs _ _) _ => (match is, ts, vs with
      | [i, j], [.Name x px, .Name y py], [a, c] => decide (N[i]? = some x) && decide (N[j]? = some y) && decide (i ≠ j) && decide (x ≠ y) && decide (sc.names.lookup x = some .local) && decide (sc.names.lookup y = some .local) && decide (py.line = px.line) &&
          noSt a && noSt c && ckA Γ N es tj sc sc [a, c] && !([a, c].all (foldedForSure 8)) && !([a, c].all (constantsAlone 8))
      | [i, j, l], [.Name x px, .Name y py, .Name z pz], [a, c, d] => decide (N[i]? = some x) && decide (N[j]? = some y) && decide (N[l]? = some z) && (decide (i ≠ j) && decide (i ≠ l) && decide (j ≠ l)) && (decide (x ≠ y) && decide (x ≠ z) && decide (y ≠ z)) &&
          (decide (sc.names.lookup x = some .local) && decide (sc.names.lookup y = some .local) && decide (sc.names.lookup z = some .local)) && (decide (py.line = px.line) && decide (pz.line = px.line)) &&
          (noSt a && noSt c && noSt d) && ckA Γ N es tj sc sc [a, c, d] && !([a, c, d].all (foldedForSure 8)) && !([a, c, d].all (constantsAlone 8))
      | _, _, _ => false)
    | _ => false
  | .six o i e, st => match st with
    | .Assign [.Subscript a c _] x _ => ck Γ N o tj sc sc a && ck Γ N i tj sc sc c && ck Γ N e tj sc sc x && noSl c
    | _ => false
  | .aug i op e, st => match st with
    | .AugAssign (.Name x _) op' a _ => decide (N[i]? = some x) && decide (op = op') && locB sc x && ck Γ N e tj sc sc a
    | _ => false
  | .ex e, st => match st with
    | .Expr x _ => ck Γ N e tj sc sc x && noCp x
    | _ => false
  | .ret e, st => match st with
    | .Return (some x) _ => ck Γ N e tj sc sc x
    | _ => false
  | .retN, st => match st with
    | .Return none _ => true
    | _ => false
  | .ife c x y, st => match st with
    | .If a s1 s2 _ => ck Γ N c tj sc sc a && ckSs Γ N tj sc x s1 && ckSs Γ N tj sc y s2
    | _ => false
  | .for_ ik it t s, st => match st with
    | .For tg iter body [] _ => ckTg N sc t tg && ckI Γ N it tj sc sc ik tg iter && noSet iter && ckSs Γ N tj sc s body
    | _ => false
  | .whil c s, st => match st with
    | .While a body [] _ => ck Γ N c tj sc sc a && ckSs Γ N tj sc s body
    | _ => false
  | .brk, st => match st with
    | .Break _ => true
    | _ => false
  | .cont, st => match st with
    | .Continue _ => true
    | _ => false
def ckSs (Γ : Gam) (N : List Str) (tj : Option Nat) (sc : Scope) : S → List Stmt → Bool
  | .skip, st => match st with
    | [] => true
    | _ => false
  | .seq x y, st => match st with
    | a :: r => ckS Γ N tj sc x a && ckSs Γ N tj sc y r
    | [] => false
  | _, _ => false
end
section
variable {Γ : Gam} {N : List Str} {R : Rt} {k b fu : Nat} {bs : Bs} {X : Cx} {tj : Option Nat} {sc : Scope}
/-- all that is shown of a compact statement -/
structure AllS (Γ : Gam) (N : List Str) (R : Rt) (b fu : Nat) (bs : Bs) (X : Cx) (tj : Option Nat) (sc : Scope) (x : S) : Prop where
  s : ∀ st : Stmt, ckS Γ N tj sc x st = true → PSd X bs (ex R fu b x) st
  l : ∀ st : List Stmt, ckSs Γ N tj sc x st = true → PSsd X bs (ex R fu b x) st
theorem nt_of {c : Bool} (h : (!c) = true) : c = false := by
  cases c
  · rfl
  · cases h
theorem noCp_sw {x : Expr} {t : Option Expr} {line : Nat} {env : Env} (h : noCp x = true) : swapsWith x t line env = pure false := by
  cases x <;> first | rfl | exact absurd h Bool.false_ne_true
theorem kind_blk {env : Env} (h : env.scope.kind = .function) : env.blockKind = .function := by
  unfold Env.blockKind
  rw [h]
  rfl
theorem allS_ok (hb : ∀ c ∈ bs, c ≤ b) (A : At Γ N R k bs tj X sc sc) (hkind : sc.kind = .function) (x : S) : AllS Γ N R b fu bs X tj sc x := by
  have hxe := A.F.xe
  have hk2 : X.env.scope.kind = .function := by rw [A.F.hs]; exact hkind
  have hpo : PassesOwn (model X.prog X.w) X.A X.env X.xe := by rw [hxe]; exact PassesOwn.never
  have nl : ∀ {x : S}, (∀ st, ckSs Γ N tj sc x st = false) → ∀ st : List Stmt, ckSs Γ N tj sc x st = true → PSsd X bs (ex R fu b x) st := fun h st z => by rw [h] at z; cases z
  have E : ∀ e, All Γ N R k b bs e := fun e => all_ok hb e
  induction x with
  | skip =>
    refine ⟨fun st h => ?_, fun st h => ?_⟩
    · unfold ckS at h
      split at h
      · exact es_pass
      · exact es_doc
      · cases h
    · unfold ckSs at h
      split at h
      · exact es_nil
      · cases h
  | seq x y Ix Iy =>
    refine ⟨fun st h => (by unfold ckS at h; exact absurd h Bool.false_ne_true), fun st h => ?_⟩
    unfold ckSs at h
    split at h
    · rw [Bool.and_eq_true] at h
      exact es_cons (Ix.s _ h.1) (Iy.l _ h.2)
    · cases h
  | asg t e =>
    refine ⟨fun st h => ?_, nl fun _ => rfl⟩
    unfold ckS at h
    split at h
    · simp only [Bool.and_eq_true] at h
      obtain ⟨h1, h2⟩ := plainA_of (line := _) hk2 (by rw [A.F.hs]; exact h.2)
      exact es_asg ((E e).e X tj sc sc _ A h.1.2).v (ckTg_ok A.F t _ h.1.1.1) h1 h2 (by rw [noSt_asg h.1.1.2]; rfl)
    · cases h
  | asgc i ik it t ts e vs =>
    refine ⟨fun st h => ?_, nl fun _ => rfl⟩
    unfold ckS at h
    split at h
    · simp only [Bool.and_eq_true] at h
      obtain ⟨⟨⟨⟨⟨⟨⟨⟨⟨⟨h0, hsw⟩, h1⟩, h2⟩, h3⟩, h4⟩, h5⟩, h6⟩, h7⟩, h8⟩, h9⟩ := h
      have e1 := of_decide_eq_true h1
      subst e1
      unfold swpA at hsw
      simp only [Bool.and_eq_true] at hsw
      have hyl := of_decide_eq_true hsw.1.1
      rw [← A.F.hs] at hyl
      exact es_asgC A.F.calm A.F.nd (by rw [A.F.hN]; exact of_decide_eq_true h0) hyl (sw_true hk2 hyl hsw.1.2 (by simpa using hsw.2)) ((E it).i X tj sc sc ik _ _ A h2) (blkOk_by (by rw [A.F.hN, A.F.hs]; exact h8)) (of_decide_eq_true h7)
        (fun i hi => of_decide_eq_true (List.all_eq_true.mp h9 i hi)) (fun s H C cl fp => ckTg_ok (A.F.blk s H _ C cl fp) t _ h4) (fun s H C cl fp => (E ts).t _ _ _ _ _ (A.blk s H _ C cl fp) h5) (fun s H C cl fp => ((E e).e _ _ _ _ _ (A.blk s H _ C cl fp) h6).v) (noSet_fold h3)
    · cases h
  | par is es =>
    refine ⟨fun st h => ?_, nl fun _ => rfl⟩
    unfold ckS at h
    split at h
    · split at h
      · simp only [Bool.and_eq_true] at h
        obtain ⟨⟨⟨⟨⟨⟨⟨⟨⟨⟨⟨h1, h2⟩, h3⟩, h4⟩, h5⟩, h6⟩, h7⟩, h8⟩, h9⟩, h10⟩, h11⟩, h12⟩ := h
        have hx := of_decide_eq_true h5
        rw [← A.F.hs] at hx
        have hy := of_decide_eq_true h6
        rw [← A.F.hs] at hy
        exact es_par2 A.F.calm A.F.nd (by rw [A.F.hN]; exact of_decide_eq_true h1) (by rw [A.F.hN]; exact of_decide_eq_true h2) (of_decide_eq_true h3) hx hy ((E es).a X tj sc sc _ A h10).1
          (sw2 (kind_blk hk2) hx hy (of_decide_eq_true h7) (of_decide_eq_true h4) h8 h9 (nt_of h11) (nt_of h12)) rfl
      · simp only [Bool.and_eq_true] at h
        obtain ⟨⟨⟨⟨⟨⟨⟨⟨⟨⟨h1, h2⟩, h3⟩, h4⟩, h5⟩, h6⟩, h7⟩, h8⟩, h10⟩, h11⟩, h12⟩ := h
        have hx := of_decide_eq_true h6.1.1
        rw [← A.F.hs] at hx
        have hy := of_decide_eq_true h6.1.2
        rw [← A.F.hs] at hy
        have hz := of_decide_eq_true h6.2
        rw [← A.F.hs] at hz
        exact es_par3 A.F.calm A.F.nd (by rw [A.F.hN]; exact of_decide_eq_true h1) (by rw [A.F.hN]; exact of_decide_eq_true h2) (by rw [A.F.hN]; exact of_decide_eq_true h3) (of_decide_eq_true h4.1.1) (of_decide_eq_true h4.1.2) (of_decide_eq_true h4.2) hx hy hz ((E es).a X tj sc sc _ A h10).1
          (sw3 (kind_blk hk2) hx hy hz (of_decide_eq_true h7.1) (of_decide_eq_true h7.2) (of_decide_eq_true h5.1.1) (of_decide_eq_true h5.1.2) (of_decide_eq_true h5.2) h8.1.1 h8.1.2 h8.2 (nt_of h11) (nt_of h12)) rfl
      · cases h
    · cases h
  | six o i e =>
    refine ⟨fun st h => ?_, nl fun _ => rfl⟩
    unfold ckS at h
    split at h
    · simp only [Bool.and_eq_true] at h
      refine es_six A.F hb ((E o).e X tj sc sc _ A h.1.1.1).v ((E i).e X tj sc sc _ A h.1.1.2).v ((E e).e X tj sc sc _ A h.1.2).v ?_ ?_ ?_
      · rename_i a c p x pos
        cases x <;> rfl
      · rename_i a c p x pos
        cases x <;> rfl
      · intro v
        rename_i a c p x pos
        cases c <;> first | rfl | exact absurd h.2 Bool.false_ne_true
    · cases h
  | aug i op e =>
    refine ⟨fun st h => ?_, nl fun _ => rfl⟩
    unfold ckS at h
    split at h
    · simp only [Bool.and_eq_true] at h
      have e1 := of_decide_eq_true h.1.1.2
      subst e1
      obtain ⟨h1, h2⟩ := A.F.loc h.1.2
      exact es_aug A.F.nd (by rw [A.F.hN]; exact of_decide_eq_true h.1.1.1) h1 ((E e).e X tj sc sc _ A h.2).v h2
    · cases h
  | ex e =>
    refine ⟨fun st h => ?_, nl fun _ => rfl⟩
    unfold ckS at h
    split at h
    · rw [Bool.and_eq_true] at h
      exact es_ex ((E e).e X tj sc sc _ A h.1).v (noCp_sw h.2)
    · cases h
  | ret e =>
    refine ⟨fun st h => ?_, nl fun _ => rfl⟩
    unfold ckS at h
    split at h
    · exact es_ret ((E e).e X tj sc sc _ A h).v
    · cases h
  | retN =>
    refine ⟨fun st h => ?_, nl fun _ => rfl⟩
    unfold ckS at h
    split at h
    · exact es_retN
    · cases h
  | ife c x y Ix Iy =>
    refine ⟨fun st h => ?_, nl fun _ => rfl⟩
    unfold ckS at h
    split at h
    · simp only [Bool.and_eq_true] at h
      exact es_if ((E c).e X tj sc sc _ A h.1.1).t (Ix.l _ h.1.2) (Iy.l _ h.2)
    · cases h
  | for_ ik it t s Is =>
    refine ⟨fun st h => ?_, nl fun _ => rfl⟩
    unfold ckS at h
    split at h
    · simp only [Bool.and_eq_true] at h
      exact es_for hpo A.F.calm ((E it).i X tj sc sc ik _ _ A h.1.1.2) (ckTg_ok A.F t _ h.1.1.1) (Is.l _ h.2) (noSet_fold h.1.2)
    · cases h
  | whil c s Is =>
    refine ⟨fun st h => ?_, nl fun _ => rfl⟩
    unfold ckS at h
    split at h
    · rw [Bool.and_eq_true] at h
      exact es_while hpo ((E c).e X tj sc sc _ A h.1).t (Is.l _ h.2)
    · cases h
  | brk =>
    refine ⟨fun st h => ?_, nl fun _ => rfl⟩
    unfold ckS at h
    split at h
    · exact es_brk
    · cases h
  | cont =>
    refine ⟨fun st h => ?_, nl fun _ => rfl⟩
    unfold ckS at h
    split at h
    · exact es_cont
    · cases h
end
end Mi
end
section
/-! Mi, part 20: defs. -/
namespace Mi
open PySem PySem.Spec PyProof.Rows L2
section
variable {K : PySem.W.Frag} {bs : Bs} {m m' : Nat → Addr} {n n1 : Nat} {H H' : Hp}
theorem Stp.back (s : Stp m n H m' n1 H') : Stp m n H m' n H' :=
  ⟨Nat.le_refl _, s.eq, s.kp, s.kd, fun i h1 h2 => absurd h2 (Nat.not_lt.mpr h1), s.ow⟩
/-- behind a def's body -/
theorem endF_ok {Q : VK} {gc : Bool} {d : Mi.D} {v : V} {st st1 : Store} (W : Wf K bs m st H) (s : Stp m st.length H m' st1.length H') (W' : Wf K (if gc then bs.cons st.length else bs) m' st1 H') (r : RD K m' st1.length H' d v)
    (q : Ok K bs (RD K) m st.length H Q (endF gc st.length d st1)) : Q v H' := by
  cases gc with
  | false => exact q m' H' v s W' r
  | true =>
    have W2 : Wf K (bs.cons st.length) m' st1 H' := W'
    have hle : st.length ≤ st1.length := W2.le _ (List.mem_cons_self .. : st.length ∈ st.length :: bs.l)
    have hl : (st1.take st.length).length = st.length := by rw [List.length_take]; omega
    have Wc : Wf K bs m' (st1.take st.length) H' := W2.cut W.le
    have sc : Stp m st.length H m' (st1.take st.length).length H' := by rw [hl]; exact s.back
    have q' : Ok K bs (RD K) m st.length H Q (if clo st.length d then .ok d (st1.take st.length) else (match frz st.length st1 64 d with
      | some d' => .ok d' (st1.take st.length)
      | none => .bad)) := q
    split at q'
    · rename_i hc
      exact q' m' H' v sc Wc (by rw [hl]; exact RD.cut hle d v hc r)
    · split at q'
      · rename_i d' hf
        exact q' m' H' v sc Wc (by rw [hl]; exact RD.frz W2 hle 64 d d' v r hf)
      · exact q'.elim
theorem RS.start {ds : List Mi.D} {vs : List V} {nl : Nat} {N : List Str} (h : RDL K m n H ds vs) (hN : N.length = ds.length + nl) : RS K m n H (ds.map some ++ List.replicate nl none) (L2.start N vs) := by
  unfold L2.start
  have hl := h.len
  have e : N.length - vs.length = nl := by omega
  rw [e]
  refine ⟨by simp [hl], fun i d hd => ?_⟩
  by_cases hi : i < ds.length
  · rw [List.getElem?_append_left (by simpa using hi), List.getElem?_map] at hd
    cases hg : ds[i]? with
    | none => rw [hg] at hd; cases hd
    | some x =>
      rw [hg] at hd
      cases hd
      obtain ⟨v, hv, rv⟩ := h.getD hg
      exact ⟨v, by rw [List.getElem?_append_left (by simp; omega), List.getElem?_map, hv]; rfl, rv⟩
  · rw [List.getElem?_append_right (by simp; omega), List.getElem?_replicate] at hd
    split at hd <;> cases hd
end
/-- the scope of a def, its names: params, locals, the names of its comprehensions -/
def fnB (sc : Scope) (N ps : List Str) : Bool :=
  decide (sc.kind = .function) && !sc.isCoroutine && !sc.isGenerator && decide N.Nodup && decide (N.take ps.length = ps) && (ps.all fun x => locB sc x) && (sc.names.all fun y => decide (y.2 ≠ .free))
theorem fnB_of {sc : Scope} {N ps : List Str} (h : fnB sc N ps = true) : FnScope N ps sc := by
  unfold fnB at h
  simp only [Bool.and_eq_true] at h
  obtain ⟨⟨⟨⟨⟨⟨h1, h2⟩, h3⟩, h4⟩, h5⟩, h6⟩, h7⟩ := h
  refine ⟨of_decide_eq_true h1, nt_of h2, nt_of h3, of_decide_eq_true h4, of_decide_eq_true h5, fun x hx => ?_, fun y hy => of_decide_eq_true (List.all_eq_true.mp h7 y hy)⟩
  have := List.all_eq_true.mp h6 x hx
  unfold locB at this
  split at this
  · exact .inl (by assumption)
  · exact .inr (by assumption)
  · cases this
/-- a def of the text says what the compact one says -/
def ckF (tj : Option Nat) (Γ : Gam) (N ps : List Str) (fn : Fn) (stm : Stmt) : Bool :=
  fnB (defScope stm) N ps && decide (ps.length = fn.np) && decide (N.length = fn.np + fn.nl) && ckSs Γ N tj (defScope stm) fn.body (defBody stm)
theorem fn_ok {P : Program} {w : World} {K : PySem.W.Frag} {mg : Str → Option Value} {base : Heap} {Γ : Gam} {R : Rt} {fu k : Nat} {x qual : Str} {stm : Stmt} {f : Addr} {fd : FuncData} {N ps : List Str} {fn : Fn} {Rn : Run} {j : Nat} {dvs : List V} {kws : List (Str × V)} (F : FunD K x qual (defArgs stm) (defBody stm) (defScope stm) dvs kws f fd) {ts : List Addr} (G : GF P w K mg base Γ R k ts) {tj : Option Nat} (hT : ∀ ti, tj = some ti → ∃ c P, ts[ti]? = some P ∧ GxR.TabB base mg c P ∧ fd.code = .ref c) (h : ckF tj Γ N ps fn stm = true)
    (hR : ∀ ds b st, Rn j ds b st = callF R fu fn ds b st) : FnG P w K mg base (k + 1) f fd ps (spR K ts Rn j) := by
  unfold ckF at h
  simp only [Bool.and_eq_true] at h
  obtain ⟨⟨⟨h1, h2⟩, h3⟩, h4⟩ := h
  have S := fnB_of h1
  have hp := of_decide_eq_true h2
  have hN := of_decide_eq_true h3
  refine fng_of F S ?_ ?_
  · intro vs H Q hs
    obtain ⟨bs, b, m, ds, st, hts, W, hb, r, q⟩ := hs
    rw [hR] at q
    unfold callF at q
    split at q
    · rename_i hl
      rw [← r.len, hl, hp]
    · exact q.elim
  · intro cdv A out s H vs Q hcode hr0 hg hs
    have hr : Room k (A.deeper (envOfC qual (defScope stm) s.heap.objs.size f cdv)) := hr0.deeper _
    obtain ⟨bs, b, m, ds, st, hts, W, hb, r, q⟩ := hs
    rw [hR] at q
    unfold callF at q
    split at q
    · rename_i hl
      have AT : At Γ N R k (if fn.gc then bs.cons st.length else bs) tj (cxOf CX0 P w K mg base N qual (defScope stm) f cdv A out s H E0).nox (defScope stm) (defScope stm) := by
        refine ⟨?_, ?_, fun ti e => ⟨fun env => ?_, ?_⟩⟩
        · have e : (if fn.gc then bs.cons st.length else bs).ts = ts := by cases fn.gc <;> exact hts
          rw [e]
          exact G
        exact { room := hr, gd := hg, calm := rfl, nd := S.nd, hN := rfl, hs := rfl, own := fun x => ⟨fun e => e, fun e => ⟨e, rfl⟩⟩, xe := rfl }
        · refine ⟨hr0.hd, ?_, ?_⟩
          · have := hr0.dp
            show A.depth + 1 + 1 + 3 * k + 5 < _
            omega
          · have := hr0.un
            show A.units + 3 + 1 + 1 + 3 + 16 * k + 200 < _
            omega
        · obtain ⟨c, P', e1, e2, e3⟩ := hT ti e
          refine ⟨c, P', ?_, e2, hcode.symm.trans e3⟩
          have e : (if fn.gc then bs.cons st.length else bs).ts = ts := by cases fn.gc <;> exact hts
          rw [e]
          exact e1
      have W0 : Wf K (if fn.gc then bs.cons st.length else bs) m st H := by
        cases fn.gc with
        | false => exact W
        | true => exact W.bar
      have hb0 : ∀ c ∈ (if fn.gc then bs.cons st.length else bs), c ≤ (if fn.gc then st.length else b) := by
        cases hgc : fn.gc with
        | false =>
          simp only [hgc] at W0 ⊢
          exact hb
        | true =>
          rw [hgc] at W0
          exact W0.le
      refine ⟨_, (allS_ok (fu := fu) hb0 AT S.kind fn.body).l _ h4, m, ds.map some ++ List.replicate fn.nl none, st, W0, RS.start r (by rw [hN, hl]), ?_⟩
      show Ok K _ (rF K) m st.length H _ (ex R fu (if fn.gc then st.length else b) fn.body (ds.map some ++ List.replicate fn.nl none) st)
      split at q
      · rename_i d st1 he
        rw [he]
        intro m' H' v s' W' rv
        cases v with
        | ret v => exact endF_ok W s' W' rv q
        | _ => exact rv.elim
      · rename_i σ1 st1 he
        rw [he]
        intro m' H' v s' W' rv
        cases v with
        | nx σ' => exact endF_ok W s' W' (by unfold RD; rfl) q
        | _ => exact rv.elim
      · exact q.elim
    · exact q.elim
end Mi
end
section
/-! Mi, part 21: all defs of a text; the end of a law. -/
namespace Mi
open PySem PySem.Spec PyProof.Rows L2
/-- a def of the text, as the written part and the compact text have it -/
structure DefOk (cs : List (Addr × Addr)) (K : PySem.W.Frag) (mg : Str → Option Value) (Γ : Gam) (tb : List Fn) (j : Nat) (x : Str) : Prop where
  ok : ∃ (tj : Option Nat) (a : Addr) (fd : FuncData) (ps : List Str) (qual : Str) (stm : Stmt) (N : List Str) (fn : Fn) (dvs : List V) (kws : List (Str × V)), Γ.par[j]? = some ps ∧ tb[j]? = some fn ∧ mg x = some (.ref a) ∧ PySem.W.keepIn K (.ref a) = true ∧ Binds K fd ps [] ∧ FunD K x qual (defArgs stm) (defBody stm) (defScope stm) dvs kws a fd ∧ (ckF tj Γ N ps fn stm = true ∧ ∀ ti, tj = some ti → ∃ p, cs[ti]? = some p ∧ fd.code = .ref p.1) ∧
    ∀ (np : Nat) (ks : List Str) (perm : List Nat), (j, np, ks, perm) ∈ Γ.kws → ∀ (s : Shared) (us ws zs : List Value), K.In s.heap → us.length = np → ws.length = ks.length → pick (us ++ ws) perm = some zs → BindsTo s fd ⟨us, ks.zip ws⟩ (ps.zip zs)
theorem tab_for {base : Heap} {mg : Str → Option Value} {cs : List (Addr × Addr)} {cd : Value} {tj : Option Nat} (hT : ∀ p ∈ cs, GxR.TabB base mg p.1 p.2) (h : ∀ ti, tj = some ti → ∃ p, cs[ti]? = some p ∧ cd = .ref p.1) :
    ∀ ti, tj = some ti → ∃ c P, (cs.map (·.2))[ti]? = some P ∧ GxR.TabB base mg c P ∧ cd = .ref c := fun ti e => by
  obtain ⟨p, h1, h2⟩ := h ti e
  exact ⟨p.1, p.2, by rw [List.getElem?_map, h1]; rfl, hT p (List.mem_of_getElem? h1), h2⟩
theorem gf_all {P : Program} {w : World} {K : PySem.W.Frag} {mg : Str → Option Value} {base : Heap} {Γ : Gam} {tb : List Fn} {gs : List D} {fu : Nat} {cs : List (Addr × Addr)} (hT : ∀ p ∈ cs, GxR.TabB base mg p.1 p.2) (hd : ∀ (j : Nat) (x : Str), Γ.fns[j]? = some x → DefOk cs K mg Γ tb j x)
    (hg : ∀ (j : Nat) (x : Str) (d : D), Γ.gls[j]? = some x → gs[j]? = some d → ∃ (u : Value) (v : V), mg x = some u ∧ RelV v u ∧ ∀ (m : Nat → Addr) (n : Nat) (H : Hp), RD K m n H d v)
    (hb : ∀ x : Str, x ∈ Γ.bts → mg x = none) : ∀ k : Nat, GF P w K mg base Γ ⟨run tb gs fu k, gs⟩ k (cs.map (·.2))
  | 0 => by
    refine ⟨fun j x hj => ?_, hg, hb⟩
    obtain ⟨tj, a, fd, ps, qual, stm, N, fn, dvs, kws, h1, h2, h3, h4, h5, h6, ⟨h7, h7t⟩, h8⟩ := (hd j x hj).ok
    refine ⟨a, fd, ps, h1, h3, h4, h5, FnG.none fun vs H Q q => ?_, h8⟩
    obtain ⟨bs, b, m, ds, st, _, W, hb, r, q⟩ := q
    exact q
  | k + 1 => by
    have ih : GF P w K mg base Γ ⟨run tb gs fu k, gs⟩ k (cs.map (·.2)) := gf_all hT hd hg hb k
    refine ⟨fun j x hj => ?_, hg, hb⟩
    obtain ⟨tj, a, fd, ps, qual, stm, N, fn, dvs, kws, h1, h2, h3, h4, h5, h6, ⟨h7, h7t⟩, h8⟩ := (hd j x hj).ok
    refine ⟨a, fd, ps, h1, h3, h4, h5, fn_ok (fu := fu) h6 ih (tab_for hT h7t) h7 fun ds b st => ?_, h8⟩
    show (match tb[j]? with
      | some fn => callF ⟨run tb gs fu k, gs⟩ fu fn ds b st
      | none => .bad) = _
    rw [h2]
/-- what is tracked at the start: the tables; the script, unless it is of the written part -/
def Hs (K : PySem.W.Frag) (ts : List Addr) (a : Addr) (o : Obj) (xs : List V) : Hp := fun c =>
  if c ∈ ts then some (.tbl #[])
  else if c = a then (match K.lookup a with
    | none => some (.frz o (.lst xs))
    | some _ => none)
  else none
theorem Hs_tab {K : PySem.W.Frag} {ts : List Addr} {a c : Addr} {o : Obj} {xs : List V} (h : c ∈ ts) : Hs K ts a o xs c = some (.tbl #[]) := if_pos h
theorem Hs_at {K : PySem.W.Frag} {ts : List Addr} {a c : Addr} {o : Obj} {xs : List V} {u : HO} (h : Hs K ts a o xs c = some u) : (c ∈ ts ∧ u = .tbl #[]) ∨ (c ∉ ts ∧ c = a ∧ K.lookup a = none ∧ u = .frz o (.lst xs)) := by
  unfold Hs at h
  split at h
  · rename_i e
    cases h
    exact .inl ⟨e, rfl⟩
  · rename_i e0
    split at h
    · rename_i e
      split at h
      · rename_i e2
        cases h
        exact .inr ⟨e0, e, e2, rfl⟩
      · cases h
    · cases h
abbrev tabO : Obj := { cls := .none, data := .fields #[] }
theorem law_end {P : Program} {w : World} {K : PySem.W.Frag} {mg mb : Str → Option Value} {k j : Nat} {fa a : Addr} {cs : List (Addr × Addr)} {fd : FuncData} {x : Str} {Rn : Run} {s0 : Shared} {us : List Value} {ns : List Int} (hK : K.In s0.heap) (hG : s0.heap.Ns mainGlobals mg) (hB : s0.heap.Ns builtinsNs mb)
    (hBB : ∀ y : Str, y ≠ "__name__" → mb y = bootBuiltins y) (hL : s0.heap.NoLimit) (hGen : s0.gens = #[]) (hA : s0.heap.get? a = some { cls := .type "list", data := .seq us.toArray }) (hI : IntsAre us ns) (hZ : ns.length ≤ sizeLine) (hR : Room k callerA) (hgu : callerA.guards = some [])
    (hTa : ∀ p ∈ cs, s0.heap.get? p.2 = some tabO) (hTo : ∀ p ∈ cs, K.lookup p.2 = none) (hTc : ∀ p ∈ cs, PySem.W.CodeHd s0.heap p.1 p.2) (hTn : (cs.map (·.2)).Nodup)
    (hbm : ∃ (bm : Addr) (ob : Obj), mg "__builtins__" = some (.ref bm) ∧ bm ≠ builtinsNs ∧ s0.heap.get? bm = some ob ∧ ob.cls = .type "module" ∧ ob.dict = some builtinsNs ∧ ob.data = .plain)
    (F : ∀ base : Heap, K.In base → base.Ns mainGlobals mg → (∀ p ∈ cs, GxR.TabB base mg p.1 p.2) → FnG P w K mg base k fa fd [x] (spR K (cs.map (·.2)) Rn j)) (hbind : ∀ (s : Shared) (u : Value), BindsTo s fd ⟨[u], []⟩ [(x, u)]) (hrun : ∃ st, Rn j [.scr ns] 0 (List.replicate cs.length .tab) = .ok (.bl true) st) :
    codeAny (model P w) callerA (.call (.ref fa) ⟨[.ref a], []⟩) (fun res sE => res = .ok (.ret (.bool true)) ∧ OldK s0.heap sE.heap ∧ sE.os = s0.os ∧ AllBare sE.gens) s0 := by
  have hv := vals_ints hI
  have hn := hI.length
  generalize hob : ({ cls := .type "list", data := .seq us.toArray } : Obj) = ob at hA
  have hdat : ob.data = .seq us.toArray := by rw [← hob]
  generalize hts : cs.map (·.2) = ts at hTn F
  have mem1 : ∀ {c : Addr}, c ∈ ts → ∃ p ∈ cs, p.2 = c := by
    intro c hc
    rw [← hts] at hc
    exact List.mem_map.mp hc
  have mem2 : ∀ {p : Addr × Addr}, p ∈ cs → p.2 ∈ ts := by
    intro p hp
    rw [← hts]
    exact List.mem_map_of_mem hp
  have hta : ∀ {c : Addr}, c ∈ ts → s0.heap.get? c = some tabO := by
    intro c hc
    obtain ⟨p, hp, rfl⟩ := mem1 hc
    exact hTa p hp
  have hlo : ∀ {c : Addr}, c ∈ ts → K.lookup c = none := by
    intro c hc
    obtain ⟨p, hp, rfl⟩ := mem1 hc
    exact hTo p hp
  have hat : a ∉ ts := by
    intro hc
    have e := (hta hc).symm.trans hA
    cases e
    cases hdat
  have htr : ∀ {c : Addr}, Hs K ts a ob (ns.map V.int) c ≠ none → (c ∈ ts ∨ c = a) ∧ K.lookup c = none := by
    intro c hc
    cases e : Hs K ts a ob (ns.map V.int) c with
    | none => exact absurd e hc
    | some u =>
      rcases Hs_at e with ⟨e1, _⟩ | ⟨_, e1, e2, _⟩
      · exact ⟨.inl e1, hlo e1⟩
      · subst e1
        exact ⟨.inr rfl, e2⟩
  have hhid : ∀ {c : Addr} {oc : Obj}, s0.heap.get? c = some oc → (∀ vs n, oc.data ≠ .seq vs n) → oc.data ≠ .fields #[] → Hs K ts a ob (ns.map V.int) c = none := by
    intro c oc e1 e2 e3
    by_cases hc : Hs K ts a ob (ns.map V.int) c = none
    · exact hc
    · rcases (htr hc).1 with h | rfl
      · have e := (hta h).symm.trans e1
        cases e
        exact absurd rfl e3
      · rw [hA] at e1
        cases e1
        exact absurd hdat (e2 _ _)
  have hdict : ∀ {c : Addr} {oc : Obj} {es : Array DictEntry} {ep : Nat}, s0.heap.get? c = some oc → oc.data = .dict es ep → Hs K ts a ob (ns.map V.int) c = none := by
    intro c oc es ep e1 e2
    refine hhid e1 (fun vs n z => ?_) fun z => ?_
    all_goals
      rw [e2] at z
      cases z
  have hNs : ∀ {c : Addr} {f : Str → Option Value}, s0.heap.Ns c f → (hidT s0.heap (Hs K ts a ob (ns.map V.int))).Ns c f := by
    intro c f hc
    obtain ⟨oc, es, ep, e1, e2, e3⟩ := hc
    exact ⟨oc, es, ep, hidT_get e1 (hdict e1 e2), e2, e3⟩
  have hKb : K.In (hidT s0.heap (Hs K ts a ob (ns.map V.int))) := by
    intro c oc e1
    refine hidT_get (hK c oc e1) ?_
    by_cases hc : Hs K ts a ob (ns.map V.int) c = none
    · exact hc
    · rw [(htr hc).2] at e1
      cases e1
  have hObj : HOk P w (Hs K ts a ob (ns.map V.int)) s0.heap := by
    intro c u hc
    rcases Hs_at hc with ⟨h, rfl⟩ | ⟨_, rfl, _, rfl⟩
    · exact hta h
    · exact ⟨hA, by rw [List.length_map]; exact hZ, us, _, hv, hA.trans (congrArg some hob.symm)⟩
  have hTab : ∀ p ∈ cs, GxR.TabB (hidT s0.heap (Hs K ts a ob (ns.map V.int))) mg p.1 p.2 := by
    intro p hp
    refine ⟨?_, ?_, fun z => ?_⟩
    · obtain ⟨o, q1, q2, q3, q4, q5, q6, q7, q8, e1, r1, r2, r3, rr⟩ := hTc p hp
      refine ⟨o, q1, q2, q3, q4, q5, q6, q7, q8, hidT_get e1 (hhid e1 (fun vs n z => ?_) fun z => ?_), r1, r2, r3, rr⟩
      · rw [r2] at z
        cases z
      · rw [r2] at z
        cases z
        simp at r3
    · obtain ⟨bm, ob', b1, b2, b3, b4, b5, b6⟩ := hbm
      refine ⟨bm, ob', b1, b2, fun z => ?_, fun z => ?_, hidT_get b3 (hhid b3 (fun vs n z => ?_) fun z => ?_), b4, b5, b6⟩
      · obtain ⟨oG, es, ep, g1, g2, _⟩ := hG
        rw [z, g1] at b3
        cases b3
        rw [g2] at b6
        cases b6
      · rw [z, hTa p hp] at b3
        cases b3
        cases b6
      · rw [b6] at z
        cases z
      · rw [b6] at z
        cases z
    · obtain ⟨oG, es, ep, g1, g2, _⟩ := hG
      rw [z, hTa p hp] at g1
      cases g1
      cases g2
  have hE : Env0 P w K mg (hidT s0.heap (Hs K ts a ob (ns.map V.int))) callerA [] s0 (Hs K ts a ob (ns.map V.int)) := by
    obtain ⟨mc, l1, l2⟩ := hL
    refine ⟨rfl, ⟨hKb, hNs hG, ⟨mb, hNs hB, hBB⟩, ⟨mc, hNs l1, l2⟩⟩, fun c oc e => of_hidT e, Nat.le_of_eq (hidT_size _ _), trivial, fun c hc => ?_, hObj, .of_eq hGen⟩
    exact absurd hc (List.not_mem_nil)
  obtain ⟨stE, hrun⟩ := hrun
  have hlen : ts.length = cs.length := by rw [← hts, List.length_map]
  have hget : ∀ i, i < cs.length → ts[i]? = some (ts.getD i 0) := by
    intro i hi
    rw [List.getD_eq_getElem?_getD, List.getElem?_eq_getElem (by omega)]
    rfl
  have hScr : RD K (fun i => ts.getD i 0) (List.replicate cs.length O.tab).length (Hs K ts a ob (ns.map V.int)) (.scr ns) (.ref a) := by
    unfold RD
    refine ⟨a, rfl, ?_⟩
    cases hk : K.lookup a with
    | none =>
      refine .inl ⟨ob, ?_, fun i hi z => ?_⟩
      · unfold Hs
        rw [if_neg hat, if_pos rfl, hk]
      · rw [List.length_replicate] at hi
        exact hat (by rw [← z]; exact List.mem_of_getElem? (hget i hi))
    | some oc =>
      have e1 := hK a oc hk
      rw [hA] at e1
      cases e1
      refine .inr ⟨ob, us.toArray, 0, hk, by rw [← hob], by rw [← hob], by rw [← hob], by rw [List.size_toArray, hn]; exact hZ, by simpa using hv⟩
  have hW : Wf K ⟨[], ts⟩ (fun i => ts.getD i 0) (List.replicate cs.length O.tab) (Hs K ts a ob (ns.map V.int)) := by
    refine ⟨fun i i' h1 h2 e => ?_, fun i o e => ?_, fun c hc => absurd hc (List.not_mem_nil), fun c hc => absurd hc (List.not_mem_nil), fun i P' hP => ?_, fun c hc => absurd hc (List.not_mem_nil)⟩
    · rw [List.length_replicate] at h1 h2
      refine (List.getElem?_inj (by omega) hTn).mp ?_
      rw [hget i h1, hget i' h2]
      exact congrArg some e
    · rw [List.getElem?_replicate] at e
      split at e
      · rename_i hi
        cases e
        exact ⟨#[], Hs_tab (List.mem_of_getElem? (hget i hi)), by simp [TriplesOk]⟩
      · cases e
    · have hi : i < cs.length := by have := (List.getElem?_eq_some_iff.mp hP).1; rw [hlen] at this; exact this
      refine ⟨by rw [List.getElem?_replicate, if_pos hi], ?_⟩
      have e := (hget i hi).symm.trans hP
      exact Option.some.inj e
  have hSp : spR K ts Rn j [.ref a] (Hs K ts a ob (ns.map V.int)) (fun v _ => v = .bl true) := by
    refine ⟨⟨[], ts⟩, 0, fun i => ts.getD i 0, [.scr ns], List.replicate cs.length .tab, rfl, hW, fun c hc => absurd hc (List.not_mem_nil), RDL.one hScr, ?_⟩
    rw [hrun]
    intro m' H' v _ _ hd
    unfold RD at hd
    exact hd
  refine codeAny_mono ((F _ hKb (hNs hG) hTab).run callerA [] s0 _ ⟨[.ref a], []⟩ [.ref a] [.ref a] _ hR hgu hE (hbind s0 (.ref a)) (.cons rfl .nil) hSp) ?_
  intro res sE hres
  cases res with
  | error e => exact False.elim hres
  | ok fl =>
    cases fl with
    | ret u =>
      obtain ⟨v, HE, hos, hbare, hun, hokE, hrel, hq⟩ := hres
      have hq' : v = .bl true := hq
      subst hq'
      have hu : u = Value.bool true := hrel
      subst hu
      have key : ∀ c oc, c ∉ ts → s0.heap.get? c = some oc → sE.heap.get? c = some oc := by
        intro c oc hct e
        cases hc : Hs K ts a ob (ns.map V.int) c with
        | none => exact hun.keep c oc e hc (List.not_mem_nil) (List.not_mem_nil)
        | some u =>
          rcases Hs_at hc with ⟨h, _⟩ | ⟨_, rfl, _, rfl⟩
          · exact absurd h hct
          · obtain ⟨e2, _⟩ := hokE c _ (hun.frzs c ob _ hc)
            rw [hA] at e
            cases e
            exact e2
      have grown : ∀ c ∈ ts, ∃ more : Array Value, sE.heap.get? c = some { cls := .none, data := .fields more } := by
        intro c hc
        obtain ⟨more, hm⟩ := hun.tbls c #[] (Hs_tab hc)
        exact ⟨_, hokE c _ hm⟩
      refine ⟨rfl, ⟨fun c oc e => ?_, fun c oc e => ?_⟩, hos, hbare⟩
      · by_cases hct : c ∈ ts
        · obtain ⟨more, hm⟩ := grown c hct
          obtain ⟨p, hp, rfl⟩ := mem1 hct
          rw [hTa p hp] at e
          cases e
          exact .inr (.inl ⟨((hTc p hp).tab (hTa p hp)).isCodeTable, rfl, #[], more, rfl, by rw [Array.empty_append]; exact hm⟩)
        · exact .inl (key c oc hct e)
      · by_cases hct : c ∈ ts
        · obtain ⟨more, hm⟩ := grown c hct
          exact ⟨_, hm⟩
        · exact ⟨oc, key c oc hct e⟩
    | next => exact False.elim hres
    | brk => exact False.elim hres
    | cont => exact False.elim hres
theorem code_for {K : PySem.W.Frag} {x qual : Str} {params : Arguments} {body : List Stmt} {scope : Scope} {dvs : List V} {kws : List (Str × V)} {p : He.Defn} {fd : FuncData} (F : FunD K x qual params body scope dvs kws (He.fAd K p) fd) : fd.code = .ref (He.cT K p).1 := by
  obtain ⟨oc, od, dV, kV, doc, pm, an, cdv, ct, osl, rfl, lk, hc, _⟩ := F.ex
  obtain ⟨c, rfl⟩ := He.codeIn_ref hc
  exact congrArg Value.ref (He.codeOf_eq lk rfl).symm
theorem forall_map {α β : Type} {f : α → β} {l : List α} {p : β → Prop} (h : ∀ x ∈ l, p (f x)) : ∀ y ∈ l.map f, p y := fun y hy => by
  obtain ⟨x, hx, rfl⟩ := List.mem_map.mp hy
  exact h x hx
end Mi
end
section
/-! Mi, part 30: what the interpreter gives, step by step. -/
namespace Mi
open PySem L2
def Res.S {α : Type} (r : Res α) (Q : α → Store → Prop) : Prop :=
  match r with
  | .ok a st => Q a st
  | .bad => False
section
variable {α β : Type} {R : Rt} {fu b : Nat} {σ : Sg} {st : Store}
theorem S_ok {a : α} {Q : α → Store → Prop} : (Res.ok a st).S Q = Q a st := id rfl
theorem S_bad {Q : α → Store → Prop} : (Res.bad : Res α).S Q = False := rfl
theorem S_bind {r : Res α} {f : α → Store → Res β} {Q : β → Store → Prop} : (r.bind f).S Q = r.S fun a st => (f a st).S Q := by cases r <;> rfl
theorem S_mono {r : Res α} {Q Q' : α → Store → Prop} (h : r.S Q) (hq : ∀ a st, Q a st → Q' a st) : r.S Q' := by
  cases r with
  | ok a st => exact hq a st h
  | bad => exact h
theorem S_of {r : Res α} {a : α} {Q : α → Store → Prop} (e : r = .ok a st) (h : Q a st) : r.S Q := by rw [e]; exact h
theorem some_some {a : α} : some_ (some a) st = .ok a st := id rfl
theorem asB_bl {c : Bool} : asB (.bl c) st = .ok c st := id rfl
theorem asI_int {c : Int} : asI (.int c) st = .ok c st := id rfl
theorem getS_z {d : D} {r : Sg} : getS (some d :: r) 0 = some d := id rfl
theorem getS_s {o : Option D} {r : Sg} {i : Nat} : getS (o :: r) (i + 1) = getS r i := id rfl
theorem bind_ok' {a : α} {f : α → Store → Res β} : (Res.ok a st).bind f = f a st := id rfl
theorem S_ex {r : Res α} (h : r.S fun a st => True) : ∃ a st', r = .ok a st' := by
  cases r with
  | ok a st => exact ⟨a, st, rfl⟩
  | bad => exact h.elim
theorem S_get {r : Res α} {Q : α → Store → Prop} (h : r.S Q) : ∃ a st', r = .ok a st' ∧ Q a st' := by
  cases r with
  | ok a st => exact ⟨a, st, rfl, h⟩
  | bad => exact h.elim
/-- a def is run -/
theorem S_run {tb : List Fn} {gs : List D} {k j : Nat} {fn : Fn} {ds : List D} {Q : D → Store → Prop} (ht : tb[j]? = some fn) (hl : ds.length = fn.np)
    (h : (ex ⟨run tb gs fu k, gs⟩ fu (if fn.gc then st.length else b) fn.body (ds.map some ++ List.replicate fn.nl none) st).S fun f st1 =>
      (match f with
      | .ret d => (endF fn.gc st.length d st1).S Q
      | .nx _ => (endF fn.gc st.length .non st1).S Q
      | _ => False)) : (run tb gs fu (k + 1) j ds b st).S Q := by
  unfold run
  rw [ht]
  simp only
  unfold callF
  rw [if_pos hl]
  cases q : ex ⟨run tb gs fu k, gs⟩ fu (if fn.gc then st.length else b) fn.body (ds.map some ++ List.replicate fn.nl none) st with
  | bad =>
    rw [q] at h
    exact h.elim
  | ok f st1 =>
    rw [q] at h
    cases f with
    | ret d => exact h
    | nx σ => exact h
    | brk σ => exact h.elim
    | cont σ => exact h.elim
theorem endF_S {n : Nat} {d : D} {st1 : Store} {Q : D → Store → Prop} (hc : clo n d = true) (h : Q d (st1.take n)) : (endF true n d st1).S Q := by
  unfold endF
  rw [if_pos rfl, if_pos hc]
  exact h
mutual
theorem clo_le {a c : Nat} (h : a ≤ c) : ∀ d : D, clo a d = true → clo c d = true
  | .tup xs, e => by unfold clo at e ⊢; exact cloL_le h xs e
  | .lst xs, e => by unfold clo at e ⊢; exact cloL_le h xs e
  | .dct ks vs, e => by
    unfold clo at e ⊢
    rw [Bool.and_eq_true] at e ⊢
    exact ⟨cloL_le h ks e.1, cloL_le h vs e.2⟩
  | .loc i, e => by
    unfold clo at e ⊢
    exact decide_eq_true (Nat.lt_of_lt_of_le (of_decide_eq_true e) h)
  | .non, _ => by unfold clo; rfl
  | .bl _, _ => by unfold clo; rfl
  | .int _, _ => by unfold clo; rfl
  | .str _, _ => by unfold clo; rfl
  | .ref _, _ => by unfold clo; rfl
  | .ty _, _ => by unfold clo; rfl
  | .scr _, _ => by unfold clo; rfl
theorem cloL_le {a c : Nat} (h : a ≤ c) : ∀ ds : List D, cloL a ds = true → cloL c ds = true
  | [], _ => by unfold cloL; rfl
  | d :: r, e => by
    unfold cloL at e ⊢
    rw [Bool.and_eq_true] at e ⊢
    exact ⟨clo_le h d e.1, cloL_le h r e.2⟩
end
end
end Mi
end
section
/-! Mi, part 31: plain data; loops over what does not change. -/
namespace Mi
open PySem L2
mutual
/-- plain data: no places, no objects; texts not too long -/
def gd : D → Bool
  | .non => true
  | .bl _ => true
  | .int _ => true
  | .str x => Nat.ble x.length big
  | .tup xs => gdL xs
  | .lst xs => gdL xs
  | .dct ks vs => gdL ks && gdL vs
  | .scr _ => false
  | .loc _ => false
  | .ref _ => false
  | .ty _ => false
def gdL : List D → Bool
  | [] => true
  | x :: r => gd x && gdL r
end
mutual
theorem gd_clo (c : Nat) : ∀ d : D, gd d = true → clo c d = true
  | .tup xs, e => by unfold gd at e; unfold clo; exact gdL_clo c xs e
  | .lst xs, e => by unfold gd at e; unfold clo; exact gdL_clo c xs e
  | .dct ks vs, e => by
    unfold gd at e
    unfold clo
    rw [Bool.and_eq_true] at e ⊢
    exact ⟨gdL_clo c ks e.1, gdL_clo c vs e.2⟩
  | .loc i, e => by unfold gd at e; cases e
  | .non, _ => by unfold clo; rfl
  | .bl _, _ => by unfold clo; rfl
  | .int _, _ => by unfold clo; rfl
  | .str _, _ => by unfold clo; rfl
  | .ref _, _ => by unfold clo; rfl
  | .ty _, _ => by unfold clo; rfl
  | .scr _, _ => by unfold clo; rfl
theorem gdL_clo (c : Nat) : ∀ ds : List D, gdL ds = true → cloL c ds = true
  | [], _ => by unfold cloL; rfl
  | d :: r, e => by
    unfold gdL at e
    unfold cloL
    rw [Bool.and_eq_true] at e ⊢
    exact ⟨gd_clo c d e.1, gdL_clo c r e.2⟩
end
theorem gdL_mem : ∀ {ds : List D} {d : D}, gdL ds = true → d ∈ ds → gd d = true
  | [], _, _, h => by cases h
  | x :: r, d, e, h => by
    unfold gdL at e
    rw [Bool.and_eq_true] at e
    rcases List.mem_cons.mp h with h | h
    · rw [h]; exact e.1
    · exact gdL_mem e.2 h
theorem gdL_of : ∀ {ds : List D}, (∀ d ∈ ds, gd d = true) → gdL ds = true
  | [], _ => by unfold gdL; rfl
  | x :: r, h => by
    unfold gdL
    rw [h x List.mem_cons_self, gdL_of fun d hd => h d (List.mem_cons_of_mem _ hd)]
    rfl
theorem gdL_app {xs ys : List D} (h1 : gdL xs = true) (h2 : gdL ys = true) : gdL (xs ++ ys) = true := gdL_of fun d hd => by
  rcases List.mem_append.mp hd with h | h
  · exact gdL_mem h1 h
  · exact gdL_mem h2 h
mutual
theorem gd_py : ∀ d : D, gd d = true → ∃ p, py d = some p
  | .tup xs, e => by
    unfold gd at e
    obtain ⟨l, h⟩ := gdL_py xs e
    exact ⟨.tuple l, by unfold py; rw [h]⟩
  | .lst xs, e => by
    unfold gd at e
    obtain ⟨l, h⟩ := gdL_py xs e
    exact ⟨.list l, by unfold py; rw [h]⟩
  | .dct ks vs, e => by
    unfold gd at e
    rw [Bool.and_eq_true] at e
    obtain ⟨l, h⟩ := gdL_py ks e.1
    obtain ⟨l', h'⟩ := gdL_py vs e.2
    exact ⟨.dict (l.zip l'), by unfold py; rw [h, h']⟩
  | .loc i, e => by unfold gd at e; cases e
  | .non, _ => ⟨_, by unfold py; rfl⟩
  | .bl _, _ => ⟨_, by unfold py; rfl⟩
  | .int _, _ => ⟨_, by unfold py; rfl⟩
  | .str _, _ => ⟨_, by unfold py; rfl⟩
  | .ref _, e => by unfold gd at e; cases e
  | .ty _, e => by unfold gd at e; cases e
  | .scr _, e => by unfold gd at e; cases e
theorem gdL_py : ∀ ds : List D, gdL ds = true → ∃ l, pyL ds = some l
  | [], _ => ⟨[], by unfold pyL; rfl⟩
  | d :: r, e => by
    unfold gdL at e
    rw [Bool.and_eq_true] at e
    obtain ⟨p, h⟩ := gd_py d e.1
    obtain ⟨l, h'⟩ := gdL_py r e.2
    exact ⟨p :: l, by unfold pyL; rw [h, h']⟩
end
theorem gd_der {d : D} (st : Store) (h : gd d = true) : der st d = d := by
  cases d with
  | loc i => unfold gd at h; cases h
  | _ => rfl
theorem allL_pure {asg : D → Sg → Option Sg} {test el : Sg → Store → Res Bool} {σ : Sg} {st : Store} {P : D → Bool} : ∀ {xs : List D}, (∀ x ∈ xs, ∃ σ', asg x σ = some σ' ∧ test σ' st = .ok true st ∧ el σ' st = .ok (P x) st) → allL asg test el σ xs st = .ok (xs.all P) st
  | [], _ => rfl
  | x :: r, h => by
    obtain ⟨σ', h1, h2, h3⟩ := h x List.mem_cons_self
    unfold allL
    simp only [h1, h2, h3, List.all_cons]
    cases P x with
    | false => rfl
    | true =>
      simp only [Bool.true_and]
      exact allL_pure fun y hy => h y (List.mem_cons_of_mem _ hy)
/-- a comprehension, its new list last -/
theorem lcL_pure {asg : D → Sg → Option Sg} {test : Sg → Store → Res Bool} {el : Sg → Store → Res D} {σ : Sg} {st : Store} {F : D → D} {P : D → Bool} : ∀ {xs acc : List D}, acc.length + xs.length ≤ 16777216 → (∀ x ∈ xs, ∀ acc : List D, ∃ σ', asg x σ = some σ' ∧ test σ' (st ++ [O.lst acc]) = .ok (P x) (st ++ [O.lst acc]) ∧ (P x = true → el σ' (st ++ [O.lst acc]) = .ok (F x) (st ++ [O.lst acc]))) →
    lcL asg test el σ st.length xs (st ++ [O.lst acc]) = .ok () (st ++ [O.lst (acc ++ (xs.filter P).map F)])
  | [], acc, _, _ => by
    unfold lcL
    simp
  | x :: r, acc, hl, h => by
    obtain ⟨σ', h1, h2, h3⟩ := h x List.mem_cons_self acc
    have ih := fun (acc' : List D) (hl' : acc'.length + r.length ≤ 16777216) => lcL_pure (asg := asg) (test := test) (el := el) (σ := σ) (st := st) (F := F) (P := P) (xs := r) (acc := acc') hl' fun y hy => h y (List.mem_cons_of_mem _ hy)
    rw [List.length_cons] at hl
    unfold lcL
    simp only [h1, h2]
    cases hp : P x with
    | false =>
      simp only [List.filter_cons, hp]
      exact ih acc (by omega)
    | true =>
      have hb : Nat.blt acc.length big = true := Nat.ble_eq.mpr (by show acc.length + 1 ≤ 16777216; omega)
      have hpush : push (st ++ [O.lst acc]) st.length (F x) = some (st ++ [O.lst (acc ++ [F x])]) := by
        unfold push
        rw [List.getElem?_append_right (Nat.le_refl _), Nat.sub_self]
        simp [hb]
      simp only [h3 hp, hpush, List.filter_cons, hp]
      rw [ih (acc ++ [F x]) (by rw [List.length_append, List.length_singleton]; omega)]
      simp
end Mi
end
section
/-! Mi, part 32: the interpreter's rows as equations. -/
namespace Mi
open PySem L2
section
variable {R : Rt} {fu b : Nat} {σ : Sg} {st : Store}
theorem ev_var {i} : ev R b (.var i) σ st = (some_ (getS σ i) st) := by
  (conv => lhs; unfold ev) <;> rfl
theorem ev_cint {i} : ev R b (.cint i) σ st = (.ok (.int i) st) := by
  (conv => lhs; unfold ev) <;> rfl
theorem ev_cstr {x} : ev R b (.cstr x) σ st = (.ok (.str x) st) := by
  (conv => lhs; unfold ev) <;> rfl
theorem ev_cbl {c} : ev R b (.cbl c) σ st = (.ok (.bl c) st) := by
  (conv => lhs; unfold ev) <;> rfl
theorem ev_cnon  : ev R b .cnon σ st = (.ok .non st) := by
  (conv => lhs; unfold ev) <;> rfl
theorem ev_gl {w1} {j} : ev R b (.gl w1 j) σ st = (some_ (R.gl[j]?) st) := by
  (conv => lhs; unfold ev) <;> rfl
theorem ev_bty {t} : ev R b (.bty t) σ st = (.ok (.ty t) st) := by
  (conv => lhs; unfold ev) <;> rfl
theorem ev_nil  : ev R b .nil σ st = (.bad) := by
  (conv => lhs; unfold ev) <;> rfl
theorem ev_cons {w1} {w2} : ev R b (.cons w1 w2) σ st = (.bad) := by
  (conv => lhs; unfold ev) <;> rfl
theorem ev_val {x} : ev R b (.val x) σ st = (ev R b x σ st) := by
  (conv => lhs; unfold ev) <;> rfl
theorem ev_tup {es} : ev R b (.tup es) σ st = ((evA R b es σ st).bind fun ds st1 => if fits ds then .ok (.tup ds) st1 else .bad) := by
  (conv => lhs; unfold ev) <;> rfl
theorem ev_lst {own} {es} : ev R b (.lst own es) σ st = ((evA R b es σ st).bind fun ds st1 => (PR.newL ds).fin own st1) := by
  (conv => lhs; unfold ev) <;> rfl
theorem ev_dnew {own} : ev R b (.dnew own) σ st = ((PR.newD [] []).fin own st) := by
  (conv => lhs; unfold ev) <;> rfl
theorem ev_dsp {es} : ev R b (.dsp es) σ st = ((evA R b es σ (st ++ [.dct [] []])).bind fun ds st1 => (some_ (dspD st.length st1 ds) st1).bind fun st2 _ => .ok (.loc st.length) st2) := by
  (conv => lhs; unfold ev) <;> rfl
theorem ev_dst {e} {es} : ev R b (.dst e es) σ st = ((ev R b e σ (st ++ [.dct [] []])).bind fun d st1 => (some_ (dstD st.length st1 d) st1).bind fun st2 _ => (evA R b es σ (st2 ++ [.dct [] []])).bind fun ds st3 =>
    (some_ (dspD st2.length st3 ds) st3).bind fun st4 _ => (some_ (dseD st.length st2.length st4) st4).bind fun st5 _ => .ok (.loc st.length) st5) := by
  (conv => lhs; unfold ev) <;> rfl
theorem ev_bin {own} {op} {x} {y} : ev R b (.bin own op x y) σ st = ((ev R b x σ st).bind fun d1 st1 => (ev R b y σ st1).bind fun d2 st2 => (binD op (der st2 d1) (der st2 d2)).fin own st2) := by
  (conv => lhs; unfold ev) <;> rfl
theorem ev_neg {x} : ev R b (.neg x) σ st = ((ev R b x σ st).bind fun d st1 => (asI d st1).bind fun i st2 => .ok (.int (-i)) st2) := by
  (conv => lhs; unfold ev) <;> rfl
theorem ev_cmp {op} {x} {y} : ev R b (.cmp op x y) σ st = ((ev R b x σ st).bind fun d1 st1 => (ev R b y σ st1).bind fun d2 st2 => (some_ (cmpS op st2 d1 d2) st2).bind fun c st3 => .ok (.bl c) st3) := by
  (conv => lhs; unfold ev) <;> rfl
theorem ev_cmp2 {op} {op'} {x} {y} {z} : ev R b (.cmp2 op op' x y z) σ st = ((ev R b x σ st).bind fun d1 st1 => (ev R b y σ st1).bind fun d2 st2 => (some_ (cmpS op st2 d1 d2) st2).bind fun c st3 =>
      match c with
      | false => .ok (.bl false) st3
      | true => (ev R b z σ st3).bind fun d3 st4 => (some_ (cmpS op' st4 d2 d3) st4).bind fun c st5 => .ok (.bl c) st5) := by
  (conv => lhs; unfold ev) <;> rfl
theorem ev_and {x} {y} : ev R b (.and x y) σ st = ((ev R b x σ st).bind fun d st1 => (asB d st1).bind fun c st2 =>
      match c with
      | false => .ok (.bl false) st2
      | true => ev R b y σ st2) := by
  (conv => lhs; unfold ev) <;> rfl
theorem ev_or {x} {y} : ev R b (.or x y) σ st = ((ev R b x σ st).bind fun d st1 => (asB d st1).bind fun c st2 =>
      match c with
      | true => .ok (.bl true) st2
      | false => ev R b y σ st2) := by
  (conv => lhs; unfold ev) <;> rfl
theorem ev_one {x} : ev R b (.one x) σ st = (ev R b x σ st) := by
  (conv => lhs; unfold ev) <;> rfl
theorem ev_not {x} : ev R b (.not x) σ st = ((ev R b x σ st).bind fun d st1 => (asB d st1).bind fun c st2 => .ok (.bl (!c)) st2) := by
  (conv => lhs; unfold ev) <;> rfl
theorem ev_ite {c} {x} {y} : ev R b (.ite c x y) σ st = ((evT R b c σ st).bind fun c st1 =>
      match c with
      | true => ev R b x σ st1
      | false => ev R b y σ st1) := by
  (conv => lhs; unfold ev) <;> rfl
theorem ev_ix {x} {y} : ev R b (.ix x y) σ st = ((ev R b x σ st).bind fun d1 st1 => (ev R b y σ st1).bind fun d2 st2 => (ixD (der st2 d1) d2).fin false st2) := by
  (conv => lhs; unfold ev) <;> rfl
theorem ev_sl {own} {x} {lo} {hi} : ev R b (.sl own x lo hi) σ st = ((ev R b x σ st).bind fun d st1 => (evP R b lo σ st1).bind fun l st2 => (evP R b hi σ st2).bind fun h st3 => (slD (der st3 d) l h).fin own st3) := by
  (conv => lhs; unfold ev) <;> rfl
theorem ev_rev {own} {x} : ev R b (.rev own x) σ st = ((ev R b x σ st).bind fun d st1 => (revD (der st1 d)).fin own st1) := by
  (conv => lhs; unfold ev) <;> rfl
theorem ev_call {w1} {f} {es} : ev R b (.call w1 f es) σ st = ((evA R b es σ st).bind fun ds st1 => R.call f ds b st1) := by
  (conv => lhs; unfold ev) <;> rfl
theorem ev_callk {w1} {f} {np} {ks} {perm} {es} {ws} : ev R b (.callk w1 f np ks perm es ws) σ st = ((evA R b es σ st).bind fun ds st1 => (evA R b ws σ st1).bind fun zs st2 => if ds.length = np ∧ zs.length = ks.length then (some_ (pick (ds ++ zs) perm) st2).bind fun ys st3 => R.call f ys b st3 else .bad) := by
  (conv => lhs; unfold ev) <;> rfl
theorem ev_bi {f} {own} {es} : ev R b (.bi f own es) σ st = ((evA R b es σ st).bind fun ds st1 => (biD f (ds.map (der st1))).fin own st1) := by
  (conv => lhs; unfold ev) <;> rfl
theorem ev_me {m} {own} {o} {es} : ev R b (.me m own o es) σ st = ((ev R b o σ st).bind fun d st1 => if isK m (der st1 d) then (evA R b es σ st1).bind fun ds st2 => (meD b st2 m d ds).bind fun pr st3 => pr.fin own st3 else .bad) := by
  (conv => lhs; unfold ev) <;> rfl
theorem ev_lc {ik} {it} {t} {ts} {e} {vs} : ev R b (.lc ik it t ts e vs) σ st = (((evA R b it σ st).bind fun ds st0 => toW ik ds st0).bind fun w st1 => (lcW (asgT t) (fun σ st => evT R b ts σ st) (fun σ st => ev R b e σ st) (wipeD σ vs) st1.length w (st1 ++ [.lst []])).bind fun _ st2 => .ok (.loc st1.length) st2) := by
  (conv => lhs; unfold ev) <;> rfl
theorem ev_all1 {w1} {ik} {it} {t} {ts} {e} {vs} : ev R b (.all1 w1 ik it t ts e vs) σ st = (((evA R b it σ st).bind fun ds st0 => toW ik ds st0).bind fun w st1 => (allW (asgT t) (fun σ st => evT R b ts σ st) (fun σ st => (ev R b e σ st).bind fun d st1 => asB d st1) (wipeD σ vs) w st1).bind fun c st2 => .ok (.bl c) st2) := by
  (conv => lhs; unfold ev) <;> rfl
theorem evA_nil  : evA R b .nil σ st = (.ok [] st) := by
  (conv => lhs; unfold evA) <;> rfl
theorem evA_cons {e} {es} : evA R b (.cons e es) σ st = ((ev R b e σ st).bind fun d st1 => (evA R b es σ st1).bind fun ds st2 => .ok (d :: ds) st2) := by
  (conv => lhs; unfold evA) <;> rfl
theorem evT_and {x} {y} : evT R b (.and x y) σ st = ((evT R b x σ st).bind fun c st1 =>
      match c with
      | true => evT R b y σ st1
      | false => .ok false st1) := by
  (conv => lhs; unfold evT) <;> rfl
theorem evT_or {x} {y} : evT R b (.or x y) σ st = ((evT R b x σ st).bind fun c st1 =>
      match c with
      | true => .ok true st1
      | false => evT R b y σ st1) := by
  (conv => lhs; unfold evT) <;> rfl
theorem evT_one {x} : evT R b (.one x) σ st = (evT R b x σ st) := by
  (conv => lhs; unfold evT) <;> rfl
theorem evT_not {x} : evT R b (.not x) σ st = ((evT R b x σ st).bind fun c st1 => .ok (!c) st1) := by
  (conv => lhs; unfold evT) <;> rfl
theorem evT_ite {c} {x} {y} : evT R b (.ite c x y) σ st = ((evT R b c σ st).bind fun c st1 =>
      match c with
      | true => evT R b x σ st1
      | false => evT R b y σ st1) := by
  (conv => lhs; unfold evT) <;> rfl
theorem evT_nil  : evT R b .nil σ st = (.ok true st) := by
  (conv => lhs; unfold evT) <;> rfl
theorem evT_cmp {op} {x} {y} : evT R b (.cmp op x y) σ st = ((ev R b x σ st).bind fun d1 st1 => (ev R b y σ st1).bind fun d2 st2 => some_ (cmpS op st2 d1 d2) st2) := by
  (conv => lhs; unfold evT) <;> rfl
theorem evT_cmp2 {op} {op'} {x} {y} {z} : evT R b (.cmp2 op op' x y z) σ st = ((ev R b x σ st).bind fun d1 st1 => (ev R b y σ st1).bind fun d2 st2 => (some_ (cmpS op st2 d1 d2) st2).bind fun c st3 =>
      match c with
      | false => .ok false st3
      | true => (ev R b z σ st3).bind fun d3 st4 => some_ (cmpS op' st4 d2 d3) st4) := by
  (conv => lhs; unfold evT) <;> rfl
theorem evT_cons {c} {w1} : evT R b (.cons c w1) σ st = (evT R b c σ st) := by
  (conv => lhs; unfold evT) <;> rfl
theorem evT_val {x} : evT R b (.val x) σ st = ((ev R b x σ st).bind fun d st1 => some_ (truD (der st1 d)) st1) := by
  (conv => lhs; unfold evT) <;> rfl
theorem evP_nil  : evP R b .nil σ st = (.ok none st) := by
  (conv => lhs; unfold evP) <;> rfl
theorem evP_val {x} : evP R b (.val x) σ st = ((ev R b x σ st).bind fun d st1 => (asI d st1).bind fun i st2 => .ok (some i) st2) := by
  (conv => lhs; unfold evP) <;> rfl
theorem ex_skip  : ex R fu b .skip σ st = (.ok (.nx σ) st) := by
  (conv => lhs; unfold ex) <;> rfl
theorem ex_seq {x} {y} : ex R fu b (.seq x y) σ st = ((ex R fu b x σ st).bind fun f st1 =>
      match f with
      | .nx σ1 => ex R fu b y σ1 st1
      | r => .ok r st1) := by
  (conv => lhs; unfold ex) <;> rfl
theorem ex_asg {t} {e} : ex R fu b (.asg t e) σ st = ((ev R b e σ st).bind fun d st1 => (some_ (asgT t d σ) st1).bind fun σ1 st2 => .ok (.nx σ1) st2) := by
  (conv => lhs; unfold ex) <;> rfl
theorem ex_asgc {i} {ik} {it} {t} {ts} {e} {vs} : ex R fu b (.asgc i ik it t ts e vs) σ st = ((ev R b (.lc ik it t ts e vs) σ st).bind fun d st1 => .ok (.nx (σ.set i (some d))) st1) := by
  (conv => lhs; unfold ex) <;> rfl
theorem ex_par {is} {es} : ex R fu b (.par is es) σ st = ((evA R b es σ st).bind fun ds st1 => (some_ (setAll is ds σ) st1).bind fun σ1 st2 => .ok (.nx σ1) st2) := by
  (conv => lhs; unfold ex) <;> rfl
theorem ex_six {o} {i} {e} : ex R fu b (.six o i e) σ st = ((ev R b e σ st).bind fun v st1 => (ev R b o σ st1).bind fun d st2 => (ev R b i σ st2).bind fun k st3 =>
      match setD b st3 d k v with
      | some st4 => .ok (.nx σ) st4
      | none => .bad) := by
  (conv => lhs; unfold ex) <;> rfl
theorem ex_aug {i} {op} {e} : ex R fu b (.aug i op e) σ st = ((some_ (getS σ i) st).bind fun x st0 => (ev R b e σ st0).bind fun y st1 => (some_ (augD op x y) st1).bind fun d st2 => .ok (.nx (σ.set i (some d))) st2) := by
  (conv => lhs; unfold ex) <;> rfl
theorem ex_ex {e} : ex R fu b (.ex e) σ st = ((ev R b e σ st).bind fun _ st1 => .ok (.nx σ) st1) := by
  (conv => lhs; unfold ex) <;> rfl
theorem ex_ret {e} : ex R fu b (.ret e) σ st = ((ev R b e σ st).bind fun d st1 => .ok (.ret d) st1) := by
  (conv => lhs; unfold ex) <;> rfl
theorem ex_retN  : ex R fu b .retN σ st = (.ok (.ret .non) st) := by
  (conv => lhs; unfold ex) <;> rfl
theorem ex_ife {c} {x} {y} : ex R fu b (.ife c x y) σ st = ((evT R b c σ st).bind fun c st1 =>
      match c with
      | true => ex R fu b x σ st1
      | false => ex R fu b y σ st1) := by
  (conv => lhs; unfold ex) <;> rfl
theorem ex_for_ {ik} {it} {t} {s} : ex R fu b (.for_ ik it t s) σ st = (((evA R b it σ st).bind fun ds st0 => toW ik ds st0).bind fun w st1 => forW (asgT t) (fun σ st => ex R fu b s σ st) w σ st1) := by
  (conv => lhs; unfold ex) <;> rfl
theorem ex_whil {c} {s} : ex R fu b (.whil c s) σ st = (whileF (fun σ st => evT R b c σ st) (fun σ st => ex R fu b s σ st) fu σ st) := by
  (conv => lhs; unfold ex) <;> rfl
theorem ex_brk  : ex R fu b .brk σ st = (.ok (.brk σ) st) := by
  (conv => lhs; unfold ex) <;> rfl
theorem ex_cont  : ex R fu b .cont σ st = (.ok (.cont σ) st) := by
  (conv => lhs; unfold ex) <;> rfl
end
end Mi
end
section
/-! Mi, part 33: evaluation. -/
namespace Mi
open PySem L2
section
variable {st : Store} {R : Rt} {b fu : Nat} {σ : Sg}
theorem der_non : der st .non = .non := id rfl
theorem der_bl {c : Bool} : der st (.bl c) = .bl c := id rfl
theorem der_int {i : Int} : der st (.int i) = .int i := id rfl
theorem pder_str {x : Str} : der st (.str x) = .str x := id rfl
theorem der_tup {xs : List D} : der st (.tup xs) = .tup xs := id rfl
theorem der_lst {xs : List D} : der st (.lst xs) = .lst xs := id rfl
theorem pder_dct {ks vs : List D} : der st (.dct ks vs) = .dct ks vs := id rfl
theorem der_scr {ns : List Int} : der st (.scr ns) = .scr ns := id rfl
theorem der_ty {t : Bt} : der st (.ty t) = .ty t := id rfl
theorem der_locL {i : Nat} {xs : List D} (h : st[i]? = some (.lst xs)) : der st (.loc i) = .lst xs := by
  show (match st[i]? with | some (.lst xs) => D.lst xs | some (.dct ks vs) => .dct ks vs | _ => .loc i) = _
  rw [h]
theorem cmp_lt_i {i j : Int} : cmpS .Lt st (.int i) (.int j) = some (decide (i < j)) := id rfl
theorem cmp_le_i {i j : Int} : cmpS .LtE st (.int i) (.int j) = some (decide (i ≤ j)) := id rfl
theorem cmp_gt_i {i j : Int} : cmpS .Gt st (.int i) (.int j) = some (decide (j < i)) := id rfl
theorem cmp_ge_i {i j : Int} : cmpS .GtE st (.int i) (.int j) = some (decide (j ≤ i)) := id rfl
theorem cmp_eq_i {i j : Int} : cmpS .Eq st (.int i) (.int j) = some (decide (i = j)) := id rfl
theorem cmp_ne_i {i j : Int} : cmpS .NotEq st (.int i) (.int j) = some (!decide (i = j)) := id rfl
theorem cmp_lt_s {i j : Str} : cmpS .Lt st (.str i) (.str j) = some (decide (i.cps.toList < j.cps.toList)) := id rfl
theorem cmp_le_s {i j : Str} : cmpS .LtE st (.str i) (.str j) = some (!decide (j.cps.toList < i.cps.toList)) := id rfl
theorem cmp_eq_s {i j : Str} : cmpS .Eq st (.str i) (.str j) = some (decide (i = j)) := id rfl
theorem cmp_ne_s {i j : Str} : cmpS .NotEq st (.str i) (.str j) = some (!decide (i = j)) := id rfl
theorem cmp_eq_l0 {xs : List D} : cmpS .Eq st (.lst xs) (.lst []) = some xs.isEmpty := by
  cases xs <;> rfl
theorem cmp_ne_l0 {xs : List D} : cmpS .NotEq st (.lst xs) (.lst []) = some (!xs.isEmpty) := by
  cases xs <;> rfl
theorem cmp_eq_L0 {xs : List D} {i : Nat} (h : st[i]? = some (.lst xs)) : cmpS .Eq st (.loc i) (.lst []) = some xs.isEmpty := by
  show (match eqLen (der st (.loc i)) (.lst []) with | some c => some c | none => eqF st (.loc i) (.lst [])) = _
  rw [der_locL h]
  cases xs <;> rfl
theorem cmp_ne_L0 {xs : List D} {i : Nat} (h : st[i]? = some (.lst xs)) : cmpS .NotEq st (.loc i) (.lst []) = some (!xs.isEmpty) := by
  have e : cmpS .NotEq st (.loc i) (.lst []) = (cmpS .Eq st (.loc i) (.lst [])).map not := rfl
  rw [e, cmp_eq_L0 h]
  rfl
theorem fin_val {own : Bool} {d : D} : (PR.val d).fin own st = .ok d st := id rfl
theorem fin_lst {xs : List D} (h : fits xs = true) : (PR.newL xs).fin false st = .ok (.lst xs) st := by
  show (if fits xs then _ else _) = _
  rw [if_pos h]
  rfl
theorem fin_lstO {xs : List D} (h : fits xs = true) : (PR.newL xs).fin true st = .ok (.loc st.length) (st ++ [.lst xs]) := by
  show (if fits xs then _ else _) = _
  rw [if_pos h]
  rfl
theorem fin_dct {ks vs : List D} : (PR.newD ks vs).fin false st = .ok (.dct ks vs) st := id rfl
theorem isi_gd {d : D} {t : Bt} (h : gd d = true) : ∃ c, isiD d t = some c := by
  cases d with
  | loc i => unfold gd at h; cases h
  | ref i => unfold gd at h; cases h
  | ty i => unfold gd at h; cases h
  | scr i => unfold gd at h; cases h
  | _ => exact ⟨_, rfl⟩
theorem len_str {z : Str} (h : z.length ≤ big) : biD .len [.str z] = .val (.int z.length) := by
  show (if Nat.ble z.length big then _ else _) = _
  rw [if_pos (Nat.ble_eq.mpr h)]
theorem len_tup {xs : List D} : biD .len [.tup xs] = .val (.int xs.length) := id rfl
theorem len_lst {xs : List D} : biD .len [.lst xs] = .val (.int xs.length) := id rfl
theorem bi_isi {d : D} {t : Bt} {c : Bool} (h : isiD d t = some c) : biD .isi [d, .ty t] = .val (.bl c) := by
  show (match isiD d t with | some b => PR.val (.bl b) | none => .bad) = _
  rw [h]
/-- what a comprehension over plain items gives -/
theorem S_lc {ik : IK} {it ts e : E} {t : T} {vs : List Nat} {xs : List D} {st1 : Store} {F : D → D} {P : D → Bool} (hw : ((evA R b it σ st).bind fun ds st0 => toW ik ds st0) = .ok (.items xs) st1) (hl : xs.length ≤ 16777216)
    (h : ∀ x ∈ xs, ∀ acc : List D, ∃ σ', asgT t x (wipeD σ vs) = some σ' ∧ evT R b ts σ' (st1 ++ [O.lst acc]) = .ok (P x) (st1 ++ [O.lst acc]) ∧ (P x = true → ev R b e σ' (st1 ++ [O.lst acc]) = .ok (F x) (st1 ++ [O.lst acc]))) :
    ev R b (.lc ik it t ts e vs) σ st = .ok (.loc st1.length) (st1 ++ [O.lst ((xs.filter P).map F)]) := by
  rw [ev_lc, hw]
  have e1 := lcL_pure (asg := asgT t) (test := fun σ st => evT R b ts σ st) (el := fun σ st => ev R b e σ st) (σ := wipeD σ vs) (st := st1) (F := F) (P := P) (xs := xs) (acc := []) (by simpa using hl) h
  show ((lcL (asgT t) (fun σ st => evT R b ts σ st) (fun σ st => ev R b e σ st) (wipeD σ vs) st1.length xs (st1 ++ [O.lst []])).bind fun _ st2 => Res.ok (D.loc st1.length) st2) = _
  rw [e1]
  simp [Res.bind]
/-- all(..) over plain items -/
theorem S_all1 {ti : Nat} {ik : IK} {it ts e : E} {t : T} {vs : List Nat} {xs : List D} {st1 : Store} {P : D → Bool} (hw : ((evA R b it σ st).bind fun ds st0 => toW ik ds st0) = .ok (.items xs) st1)
    (h : ∀ x ∈ xs, ∃ σ', asgT t x (wipeD σ vs) = some σ' ∧ evT R b ts σ' st1 = .ok true st1 ∧ ev R b e σ' st1 = .ok (.bl (P x)) st1) :
    ev R b (.all1 ti ik it t ts e vs) σ st = .ok (.bl (xs.all P)) st1 := by
  rw [ev_all1, hw]
  show ((allL (asgT t) (fun σ st => evT R b ts σ st) (fun σ st => (ev R b e σ st).bind fun d st1 => asB d st1) (wipeD σ vs) xs st1).bind fun c st2 => Res.ok (D.bl c) st2) = _
  rw [allL_pure (P := P) fun x hx => ?_]
  · rfl
  · obtain ⟨σ', h1, h2, h3⟩ := h x hx
    exact ⟨σ', h1, h2, by rw [h3]; rfl⟩
end
end Mi
end
section
/-! Mi, part 34: slices, items, pairs of neighbours. -/
namespace Mi
open PySem L2
theorem cut_init {α : Type} (xs : List α) : cut xs none (some (-1)) = xs.dropLast := by
  unfold cut
  have e1 : HT.sIx xs.length 0 none = 0 := rfl
  have e2 : HT.sIx xs.length xs.length (some (-1)) = xs.length - 1 := by
    show (if (-1 : Int) < 0 then ((-1 : Int) + (xs.length : Int)).toNat else min (-1 : Int).toNat xs.length) = xs.length - 1
    rw [if_pos (by decide)]
    omega
  rw [e1, e2, List.drop_zero, Nat.sub_zero, List.dropLast_eq_take]
theorem cut_tail {α : Type} (xs : List α) : cut xs (some 1) none = xs.drop 1 := by
  unfold cut
  have e1 : HT.sIx xs.length 0 (some 1) = min 1 xs.length := HT.sIx_nat xs.length 0 1
  have e2 : HT.sIx xs.length xs.length none = xs.length := rfl
  rw [e1, e2]
  cases xs with
  | nil => rfl
  | cons x r =>
    have h : min 1 (x :: r).length = 1 := by rw [List.length_cons]; omega
    rw [h]
    exact List.take_of_length_le (by rw [List.length_drop]; exact Nat.le_refl _)
theorem cut_to {α : Type} (xs : List α) (n : Nat) : cut xs none (some (n : Int)) = xs.take n := by
  unfold cut
  have e1 : HT.sIx xs.length 0 none = 0 := rfl
  rw [e1, HT.sIx_nat, List.drop_zero, Nat.sub_zero]
  by_cases h : n ≤ xs.length
  · rw [Nat.min_eq_left h]
  · rw [Nat.min_eq_right (by omega), List.take_of_length_le (Nat.le_refl _), List.take_of_length_le (by omega)]
theorem cut_from {α : Type} (xs : List α) (n : Nat) : cut xs (some (n : Int)) none = xs.drop n := by
  unfold cut
  have e2 : HT.sIx xs.length xs.length none = xs.length := rfl
  rw [e2, HT.sIx_nat]
  by_cases h : n ≤ xs.length
  · rw [Nat.min_eq_left h]
    exact List.take_of_length_le (by rw [List.length_drop]; exact Nat.le_refl _)
  · rw [Nat.min_eq_right (by omega), List.drop_of_length_le (Nat.le_refl _), List.drop_of_length_le (by omega), List.take_nil]
theorem cut_mid {α : Type} (xs : List α) (a b : Nat) : cut xs (some (a : Int)) (some (b : Int)) = (xs.drop a).take (b - a) := by
  unfold cut
  rw [HT.sIx_nat, HT.sIx_nat]
  by_cases h : a ≤ xs.length
  · rw [Nat.min_eq_left h]
    by_cases h2 : b ≤ xs.length
    · rw [Nat.min_eq_left h2]
    · rw [Nat.min_eq_right (by omega), List.take_of_length_le (by rw [List.length_drop]; omega), List.take_of_length_le (by rw [List.length_drop]; omega)]
  · rw [show min a xs.length = xs.length from Nat.min_eq_right (by omega), List.drop_of_length_le (Nat.le_refl _), List.drop_of_length_le (by omega), List.take_nil, List.take_nil]
theorem atI_eq {α : Type} (xs : List α) (j : Nat) : atI xs (j : Int) = xs[j]? := by
  unfold atI ixN
  rw [if_pos (by omega)]
  by_cases h : (j : Int) < (xs.length : Int)
  · rw [if_pos h]
    simp
  · rw [if_neg h]
    rw [List.getElem?_eq_none (by omega)]
    rfl
/-- each one and the next one -/
def chain {α : Type} (f : α → α → Bool) : List α → Bool
  | a :: b :: r => f a b && chain f (b :: r)
  | _ => true
theorem chain_iff {α : Type} {f : α → α → Bool} : ∀ {xs : List α}, chain f xs = true ↔ ∀ i a b, xs[i]? = some a → xs[i + 1]? = some b → f a b = true
  | [] => ⟨fun _ i a b h => (by simp at h), fun _ => rfl⟩
  | [x] => ⟨fun _ i a b _ h => (by simp at h), fun _ => rfl⟩
  | x :: y :: r => by
    have ih := chain_iff (f := f) (xs := y :: r)
    show (f x y && chain f (y :: r)) = true ↔ _
    rw [Bool.and_eq_true, ih]
    constructor
    · rintro ⟨h1, h2⟩ i a b ha hb
      cases i with
      | zero =>
        cases ha
        cases hb
        exact h1
      | succ i => exact h2 i a b (by simpa using ha) (by simpa using hb)
    · intro h
      exact ⟨h 0 x y rfl rfl, fun i a b ha hb => h (i + 1) a b (by simpa using ha) (by simpa using hb)⟩
def pr2 (f : D → D → Bool) (d : D) : Bool := match d with
  | .tup [a, b] => f a b
  | _ => false
theorem zip_chain {f : D → D → Bool} : ∀ xs : List D, ((xs.dropLast.zip (xs.drop 1)).map fun p => D.tup [p.1, p.2]).all (pr2 f) = chain f xs
  | [] => rfl
  | [x] => rfl
  | x :: y :: r => by
    have ih := zip_chain (f := f) (y :: r)
    show (f x y && (((y :: r).dropLast.zip r).map fun p => D.tup [p.1, p.2]).all (pr2 f)) = (f x y && chain f (y :: r))
    rw [← ih]
    rfl
/-- by places 1, 2, .. -/
theorem rng_chain {f : D → D → Bool} {P : D → Bool} {xs : List D} (hP : ∀ (i : Nat) (a b : D), xs[i]? = some a → xs[i + 1]? = some b → P (.int (1 + (i : Nat))) = !f a b) : ((rng 1 (xs.length - 1)).filter P).isEmpty = chain f xs := by
  rw [Bool.eq_iff_iff, List.isEmpty_iff, List.filter_eq_nil_iff, chain_iff]
  constructor
  · intro h i a b ha hb
    have hi : i + 1 < xs.length := (List.getElem?_eq_some_iff.mp hb).1
    have := h (.int (1 + (i : Nat))) (by unfold rng; exact List.mem_map.mpr ⟨i, List.mem_range.mpr (by omega), rfl⟩)
    rw [hP i a b ha hb] at this
    cases q : f a b with
    | true => rfl
    | false => rw [q] at this; exact absurd rfl this
  · intro h d hd
    unfold rng at hd
    obtain ⟨i, hi, rfl⟩ := List.mem_map.mp hd
    have hi' := List.mem_range.mp hi
    have h1 : xs[i]? = some (xs[i]'(by omega)) := List.getElem?_eq_getElem (by omega)
    have h2 : xs[i + 1]? = some (xs[i + 1]'(by omega)) := List.getElem?_eq_getElem (by omega)
    rw [hP i _ _ h1 h2, h i _ _ h1 h2]
    exact Bool.false_ne_true
theorem chain_map {α β : Type} {f : β → β → Bool} {g : α → β} : ∀ xs : List α, chain f (xs.map g) = chain (fun a b => f (g a) (g b)) xs
  | [] => rfl
  | [x] => rfl
  | x :: y :: r => by
    have ih := chain_map (f := f) (g := g) (y :: r)
    show (f (g x) (g y) && chain f ((y :: r).map g)) = _
    rw [ih]
    rfl
theorem lim62_ok {i : Int} (h1 : -1000000000 ≤ i) (h2 : i ≤ 1000000000) : lim62 i = true := by
  have h' : i.natAbs + 1 ≤ 4611686018427387904 := by omega
  exact Nat.ble_eq.mpr h'
theorem toW_items {ik : IK} {ds xs : List D} {st : Store} (h : walkD ik ds = .items xs) : toW ik ds st = .ok (.items xs) st := by
  unfold toW
  rw [h]
  exact if_pos rfl
theorem toW_range2 {a c : Int} {st : Store} (h1 : -1000000000 ≤ a) (h2 : a ≤ 1000000000) (h3 : -1000000000 ≤ c) (h4 : c ≤ 1000000000) : toW .range2 [.int a, .int c] st = .ok (.items (rng a (c - a).toNat)) st := by
  refine toW_items ?_
  have e : walkD .range2 [.int a, .int c] = if (lim62 a && lim62 c) = true then Wk.items (rng a (c - a).toNat) else .bad := rfl
  rw [e, if_pos]
  rw [lim62_ok h1 h2, lim62_ok h3 h4]
  rfl
theorem toW_range1 {c : Int} {st : Store} (h3 : -1000000000 ≤ c) (h4 : c ≤ 1000000000) : toW .range1 [.int c] st = .ok (.items (rng 0 c.toNat)) st := by
  refine toW_items ?_
  have e : walkD .range1 [.int c] = if lim62 c = true then Wk.items (rng 0 c.toNat) else .bad := rfl
  rw [e, if_pos (lim62_ok h3 h4)]
theorem bind_ok {α β : Type} {r : Res α} {a : α} {st : Store} {f : α → Store → Res β} {x : Res β} (e : r = .ok a st) (e2 : f a st = x) : r.bind f = x := by
  subst e
  exact e2
end Mi
end
section
/-! Mi, part 35: repr(..) of plain data is given. -/
namespace Mi
open PySem L2
mutual
/-- no more signs than this -/
def wt : D → Nat
  | .non => 4
  | .bl _ => 5
  | .int _ => 1921
  | .str x => 10 * x.length + 2
  | .tup xs => wtL xs + 3
  | .lst xs => wtL xs + 3
  | .dct ks vs => wtL ks + wtL vs + 3
  | .scr _ => 0
  | .loc _ => 0
  | .ref _ => 0
  | .ty _ => 0
def wtL : List D → Nat
  | [] => 0
  | x :: r => wt x + 2 + wtL r
end
mutual
def dpD : D → Nat
  | .non => 0
  | .bl _ => 0
  | .int _ => 0
  | .str _ => 0
  | .tup xs => dpL xs + 1
  | .lst xs => dpL xs + 1
  | .dct ks vs => max (dpL ks) (dpL vs) + 1
  | .scr _ => 0
  | .loc _ => 0
  | .ref _ => 0
  | .ty _ => 0
def dpL : List D → Nat
  | [] => 0
  | x :: r => max (dpD x) (dpL r)
end
mutual
/-- repr gives it: numbers and signs not too great -/
def shD : D → Bool
  | .non => true
  | .bl _ => true
  | .int i => decide (i.natAbs.log2 < 1920)
  | .str x => x.cps.toList.all fun c => decide (c < 1114112)
  | .tup xs => shL xs
  | .lst xs => shL xs
  | .dct ks vs => shL ks && shL vs
  | .scr _ => false
  | .loc _ => false
  | .ref _ => false
  | .ty _ => false
def shL : List D → Bool
  | [] => true
  | x :: r => shD x && shL r
end
mutual
def noDc : D → Bool
  | .tup xs => noDcL xs
  | .lst xs => noDcL xs
  | .dct _ _ => false
  | .non => true
  | .bl _ => true
  | .int _ => true
  | .str _ => true
  | .scr _ => true
  | .loc _ => true
  | .ref _ => true
  | .ty _ => true
def noDcL : List D → Bool
  | [] => true
  | x :: r => noDc x && noDcL r
end
mutual
def noLs : D → Bool
  | .tup xs => noLsL xs
  | .lst _ => false
  | .dct ks vs => noLsL ks && noLsL vs
  | .non => true
  | .bl _ => true
  | .int _ => true
  | .str _ => true
  | .scr _ => true
  | .loc _ => true
  | .ref _ => true
  | .ty _ => true
def noLsL : List D → Bool
  | [] => true
  | x :: r => noLs x && noLsL r
end
open PyData in
theorem textFrom_le : ∀ (ts : List Str) (k : Nat) (acc : Str), (textFrom k acc ts).length ≤ acc.length + piled ts
  | [], k, acc => Nat.le_add_right _ _
  | t :: r, k, acc => by
    have ih := textFrom_le r (k + 1) (acc ++ (if k > 0 then ", " else "" : String) ++ t)
    have e : (acc ++ (if k > 0 then ", " else "" : String) ++ t).length ≤ acc.length + 2 + t.length := by
      rw [strLen_append, strLen_append]
      have : ((if k > 0 then ", " else "" : String) : Str).length ≤ 2 := by split <;> decide
      omega
    rw [piled_cons]
    show (textFrom (k + 1) _ r).length ≤ _
    omega
theorem listText_le (ts : List Str) : (listText ts).length ≤ piled ts + 3 := by
  unfold listText
  rw [strLen_append]
  have e1 : (("[" : String) : Str).length = 1 := rfl
  have e2 : (("]" : String) : Str).length = 1 := rfl
  have := textFrom_le ts 0 ("[" : String)
  omega
theorem join_le (ts : List Str) : (Str.join ", " ts).length ≤ piled ts := by
  by_cases h : ts = []
  · subst h
    exact Nat.zero_le _
  · have := join_length_add ts h
    omega
theorem tupleText_le (ts : List Str) : (tupleText ts).length ≤ piled ts + 3 := by
  unfold tupleText
  rw [strLen_append, strLen_append]
  have e1 : (("(" : String) : Str).length = 1 := rfl
  have e2 : ((if ts.length == 1 then ",)" else ")" : String) : Str).length ≤ 2 := by split <;> decide
  have := join_le ts
  omega
theorem dictText_le (ts : List Str) : (dictText ts).length ≤ piled ts + 3 := by
  unfold dictText
  rw [strLen_append, strLen_append]
  have e1 : (("{" : String) : Str).length = 1 := rfl
  have e2 : (("}" : String) : Str).length = 1 := rfl
  have := join_le ts
  omega
open PyData in
theorem kv_le : ∀ (ks vs : List PyData), piled (shownKv (ks.zip vs)) ≤ piled (shownAll ks) + piled (shownAll vs)
  | [], vs => by simp [shownKv, piled]
  | k :: ks, [] => by simp [shownKv, piled]
  | k :: ks, v :: vs => by
    have ih := kv_le ks vs
    have e : ((shown k ++ ": " ++ shown v : Str)).length = (shown k).length + 2 + (shown v).length := by
      rw [strLen_append, strLen_append]
      rfl
    show piled ((shown k ++ ": " ++ shown v) :: shownKv (ks.zip vs)) ≤ piled (shown k :: shownAll ks) + piled (shown v :: shownAll vs)
    rw [piled_cons, piled_cons, piled_cons, e]
    omega
open PyData in
theorem kv_show : ∀ (ks vs : List PyData), showableAll ks = true → showableAll vs = true → showableKv (ks.zip vs) = true
  | [], vs, _, _ => by simp [showableKv]
  | k :: ks, [], _, _ => by simp [showableKv]
  | k :: ks, v :: vs, h1, h2 => by
    unfold showableAll at h1 h2
    rw [Bool.and_eq_true] at h1 h2
    show (showable k && showable v && showableKv (ks.zip vs)) = true
    rw [h1.1, h2.1, kv_show ks vs h1.2 h2.2]
    rfl
open PyData in
theorem kv_depth : ∀ (ks vs : List PyData), depthKv (ks.zip vs) ≤ max (depthAll ks) (depthAll vs)
  | [], vs => by simp [depthKv]
  | k :: ks, [] => by simp [depthKv]
  | k :: ks, v :: vs => by
    have ih := kv_depth ks vs
    show max (max (depth k) (depth v)) (depthKv (ks.zip vs)) ≤ max (max (depth k) (depthAll ks)) (max (depth v) (depthAll vs))
    omega
open PyData in
theorem kv_noL : ∀ (ks vs : List PyData), noLL ks = true → noLL vs = true → noLK (ks.zip vs) = true
  | [], vs, _, _ => by simp [noLK]
  | k :: ks, [], _, _ => by simp [noLK]
  | k :: ks, v :: vs, h1, h2 => by
    unfold noLL at h1 h2
    rw [Bool.and_eq_true] at h1 h2
    show (noL k && noL v && noLK (ks.zip vs)) = true
    rw [h1.1, h2.1, kv_noL ks vs h1.2 h2.2]
    rfl
section
open PyData
mutual
theorem sh_ok : ∀ (d : D) (p : PyData), shD d = true → py d = some p → showable p = true ∧ (shown p).length ≤ wt d ∧ depth p ≤ dpD d ∧ (noDc d = true → hasDict p = false) ∧ (noLs d = true → noL p = true)
  | .non, p, h, e => by
    unfold py at e
    cases e
    exact ⟨by simp [showable], by decide, by simp [depth], fun _ => by simp [hasDict], fun _ => by simp [noL]⟩
  | .bl c, p, h, e => by
    unfold py at e
    cases e
    exact ⟨by simp [showable], by cases c <;> decide, by simp [depth], fun _ => by simp [hasDict], fun _ => by simp [noL]⟩
  | .int i, p, h, e => by
    unfold py at e
    cases e
    unfold shD at h
    refine ⟨by simpa [showable] using h, ?_, by simp [depth], fun _ => by simp [hasDict], fun _ => by simp [noL]⟩
    have := PyProof.Rows.int_text_len_1921 (i := i) (of_decide_eq_true h)
    show (shown (.int i)).length ≤ 1921
    simpa [shown] using this
  | .str x, p, h, e => by
    unfold py at e
    cases e
    unfold shD at h
    refine ⟨by simp [showable], ?_, by simp [depth], fun _ => by simp [hasDict], fun _ => by simp [noL]⟩
    have := StrLaws.reprText_len x fun c hc => by
      have := of_decide_eq_true (List.all_eq_true.mp h c hc)
      omega
    show (shown (.str x)).length ≤ 10 * x.length + 2
    simpa [shown] using this
  | .tup xs, p, h, e => by
    unfold shD at h
    unfold py at e
    cases q : pyL xs with
    | none => rw [q] at e; cases e
    | some l =>
      rw [q] at e
      cases e
      obtain ⟨h1, h2, h3, h4, h5⟩ := shL_ok xs l h q
      refine ⟨by simpa [showable] using h1, ?_, ?_, fun k => ?_, fun k => ?_⟩
      · have := tupleText_le (shownAll l)
        show (shown (.tuple l)).length ≤ wtL xs + 3
        simp only [shown]
        omega
      · show depth (.tuple l) ≤ dpL xs + 1
        simp only [depth]
        omega
      · unfold noDc at k
        simpa [hasDict] using h4 k
      · unfold noLs at k
        simpa [noL] using h5 k
  | .lst xs, p, h, e => by
    unfold shD at h
    unfold py at e
    cases q : pyL xs with
    | none => rw [q] at e; cases e
    | some l =>
      rw [q] at e
      cases e
      obtain ⟨h1, h2, h3, h4, h5⟩ := shL_ok xs l h q
      refine ⟨by simpa [showable] using h1, ?_, ?_, fun k => ?_, fun k => ?_⟩
      · have := listText_le (shownAll l)
        show (shown (.list l)).length ≤ wtL xs + 3
        simp only [shown]
        omega
      · show depth (.list l) ≤ dpL xs + 1
        simp only [depth]
        omega
      · unfold noDc at k
        simpa [hasDict] using h4 k
      · unfold noLs at k
        cases k
  | .dct ks vs, p, h, e => by
    unfold shD at h
    rw [Bool.and_eq_true] at h
    unfold py at e
    cases q : pyL ks with
    | none => rw [q] at e; cases e
    | some l =>
      cases q2 : pyL vs with
      | none => rw [q, q2] at e; cases e
      | some l2 =>
        rw [q, q2] at e
        cases e
        obtain ⟨h1, h2, h3, h4, h5⟩ := shL_ok ks l h.1 q
        obtain ⟨g1, g2, g3, g4, g5⟩ := shL_ok vs l2 h.2 q2
        refine ⟨by simpa [showable] using kv_show l l2 h1 g1, ?_, ?_, fun k => ?_, fun k => ?_⟩
        · have := dictText_le (shownKv (l.zip l2))
          have := kv_le l l2
          show (shown (.dict (l.zip l2))).length ≤ wtL ks + wtL vs + 3
          simp only [shown]
          omega
        · have := kv_depth l l2
          show depth (.dict (l.zip l2)) ≤ max (dpL ks) (dpL vs) + 1
          simp only [depth]
          omega
        · unfold noDc at k
          cases k
        · unfold noLs at k
          rw [Bool.and_eq_true] at k
          simpa [noL] using kv_noL l l2 (h5 k.1) (g5 k.2)
  | .scr _, p, h, e => by unfold shD at h; cases h
  | .loc _, p, h, e => by unfold shD at h; cases h
  | .ref _, p, h, e => by unfold shD at h; cases h
  | .ty _, p, h, e => by unfold shD at h; cases h
theorem shL_ok : ∀ (ds : List D) (l : List PyData), shL ds = true → pyL ds = some l → showableAll l = true ∧ piled (shownAll l) ≤ wtL ds ∧ depthAll l ≤ dpL ds ∧ (noDcL ds = true → hasDictAll l = false) ∧ (noLsL ds = true → noLL l = true)
  | [], l, h, e => by
    unfold pyL at e
    cases e
    exact ⟨by simp [showableAll], by simp [shownAll, piled], by simp [depthAll], fun _ => by simp [hasDictAll], fun _ => by simp [noLL]⟩
  | d :: r, l, h, e => by
    unfold shL at h
    rw [Bool.and_eq_true] at h
    unfold pyL at e
    cases q : py d with
    | none => rw [q] at e; cases e
    | some p =>
      cases q2 : pyL r with
      | none => rw [q, q2] at e; cases e
      | some l' =>
        rw [q, q2] at e
        cases e
        obtain ⟨h1, h2, h3, h4, h5⟩ := sh_ok d p h.1 q
        obtain ⟨g1, g2, g3, g4, g5⟩ := shL_ok r l' h.2 q2
        refine ⟨by simp [showableAll, h1, g1], ?_, ?_, fun k => ?_, fun k => ?_⟩
        · show piled (shown p :: shownAll l') ≤ wt d + 2 + wtL r
          rw [piled_cons]
          omega
        · show max (depth p) (depthAll l') ≤ max (dpD d) (dpL r)
          omega
        · unfold noDcL at k
          rw [Bool.and_eq_true] at k
          simp [hasDictAll, h4 k.1, g4 k.2]
        · unfold noLsL at k
          rw [Bool.and_eq_true] at k
          simp [noLL, h5 k.1, g5 k.2]
end
end
theorem repr_ok {d : D} (h : shD d = true) (hg : gd d = true) (hk : (noDc d || noLs d) = true) (hd : dpD d ≤ 60) (hw : wt d ≤ big) : ∃ z, reprD d = .val (.str z) := by
  obtain ⟨p, hp⟩ := gd_py d hg
  obtain ⟨h1, h2, h3, h4, h5⟩ := sh_ok d p h hp
  refine ⟨PyData.shown p, ?_⟩
  unfold reprD
  rw [hp]
  simp only
  rw [if_pos]
  rw [h1, Bool.true_and, Bool.and_eq_true, Bool.and_eq_true]
  refine ⟨⟨decide_eq_true (Nat.le_trans h3 hd), ?_⟩, Nat.ble_eq.mpr (Nat.le_trans h2 hw)⟩
  rw [Bool.or_eq_true] at hk ⊢
  rcases hk with hk | hk
  · exact .inl (by rw [h4 hk]; rfl)
  · exact .inr (h5 hk)
end Mi
end
section
/-! Mi, part 36: arithmetic, writing, loops with an invariant. -/
namespace Mi
open PySem L2
section
variable {st : Store} {b : Nat}
theorem bin_add {i j : Int} : binD .Add (.int i) (.int j) = .val (.int (i + j)) := rfl
theorem bin_sub {i j : Int} : binD .Sub (.int i) (.int j) = .val (.int (i - j)) := rfl
theorem bin_mod {i j : Int} (h : 0 < j) : binD .Mod (.int i) (.int j) = .val (.int (i % j)) := by
  show (if decide (0 < j) = true then PR.val (.int (i % j)) else .bad) = _
  rw [if_pos (decide_eq_true h)]
theorem bin_mul {i j : Int} (h : mulOk i j = true) : binD .Mult (.int i) (.int j) = .val (.int (i * j)) := by
  show (if mulOk i j = true then PR.val (.int (i * j)) else .bad) = _
  rw [if_pos h]
theorem bin_div {i j : Int} (h : divOk j = true) : binD .FloorDiv (.int i) (.int j) = .val (.int (i / j)) := by
  show (if divOk j = true then PR.val (.int (i / j)) else .bad) = _
  rw [if_pos h]
theorem bin_addS {i j : Str} (h : i.length + j.length ≤ big) : binD .Add (.str i) (.str j) = .val (.str (i ++ j)) := by
  show (if Nat.ble (i.length + j.length) big = true then PR.val (.str (i ++ j)) else .bad) = _
  rw [if_pos (Nat.ble_eq.mpr h)]
theorem bin_addT {xs ys : List D} (h : xs.length + ys.length ≤ big) : binD .Add (.tup xs) (.tup ys) = .val (.tup (xs ++ ys)) := by
  show (if fits (xs ++ ys) = true then PR.val (.tup (xs ++ ys)) else .bad) = _
  rw [if_pos]
  unfold fits
  rw [List.length_append]
  exact Nat.ble_eq.mpr h
theorem bin_addL {xs ys : List D} : binD .Add (.lst xs) (.lst ys) = .newL (xs ++ ys) := rfl
theorem fits_of {xs : List D} (h : xs.length ≤ big) : fits xs = true := Nat.ble_eq.mpr h
theorem log_lt {i : Int} (h : i.natAbs < 2 ^ 200) : i.natAbs.log2 < 200 := by
  by_cases h0 : i.natAbs = 0
  · rw [h0]
    decide
  · exact (Nat.log2_lt h0).mpr h
theorem mulOk_of {i j : Int} (h1 : i.natAbs < 2 ^ 200) (h2 : j.natAbs < 2 ^ 200) : mulOk i j = true := by
  have a := log_lt h1
  have c := log_lt h2
  unfold mulOk
  exact Nat.ble_eq.mpr (by omega)
theorem divOk_of {j : Int} (h1 : 0 < j) (h2 : j.natAbs < 2 ^ 200) : divOk j = true := by
  have a := log_lt h2
  unfold divOk
  rw [Bool.and_eq_true]
  exact ⟨decide_eq_true h1, Nat.ble_eq.mpr (by omega)⟩
/-- one object is written -/
theorem pwr_ok {i : Nat} {o o' : O} (h : st[i]? = some o) (ho : o ≠ .tab) (hc : cloO i o' = true) : wr b st i o' = some (st.set i o') := by
  unfold wr
  have hi := (List.getElem?_eq_some_iff.mp h).1
  have hn : notTab st i = true := by
    unfold notTab
    rw [h]
    cases o with
    | tab => exact absurd rfl ho
    | _ => rfl
  rw [hn, hc, decide_eq_true hi]
  simp
theorem wr_new {i : Nat} {o o' : O} (h : st[i]? = some o) (ho : o ≠ .tab) (hb : b ≤ i) : wr b st i o' = some (st.set i o') := by
  unfold wr
  have hi := (List.getElem?_eq_some_iff.mp h).1
  have hn : notTab st i = true := by
    unfold notTab
    rw [h]
    cases o with
    | tab => exact absurd rfl ho
    | _ => rfl
  rw [hn, decide_eq_true hb, decide_eq_true hi]
  simp
theorem meD_loc {i : Nat} {xs ds : List D} {m : ME} (h : st[i]? = some (.lst xs)) : meD b st m (.loc i) ds = meL b st i xs m ds := by
  show (match st[i]? with | some (.lst xs) => meL b st i xs m ds | some (.dct ks vs) => Res.ok (meV m (.dct ks vs) ds) st | _ => .bad) = _
  rw [h]
theorem meL_append {i : Nat} {xs : List D} {y : D} {st' : Store} (h : xs.length < 16777216) (hw : wr b st i (.lst (xs ++ [y])) = some st') : meL b st i xs .append [y] = .ok (.val .non) st' := by
  unfold meL
  simp only
  rw [if_pos (show Nat.blt xs.length big = true from Nat.ble_eq.mpr h), hw]
theorem meL_pop {i : Nat} {xs : List D} {y : D} {st' : Store} (h : xs[xs.length - 1]? = some y) (hw : wr b st i (.lst xs.dropLast) = some st') : meL b st i xs .pop [] = .ok (.val y) st' := by
  unfold meL
  simp only
  rw [h]
  simp only
  rw [hw]
theorem setD_loc {i : Nat} {xs : List D} {j : Nat} {k : Int} {v : D} (h : st[i]? = some (.lst xs)) (hj : ixN xs.length k = some j) : setD b st (.loc i) (.int k) v = wr b st i (.lst (xs.set j v)) := by
  show (match st[i]? with | some (.lst xs) => (match ixN xs.length k with | some j => wr b st i (.lst (xs.set j v)) | none => none) | some (.dct ks vs) => _ | _ => none) = _
  rw [h]
  simp only
  rw [hj]
theorem cloO_ints {c : Nat} (ns : List Int) : cloO c (.lst (ns.map .int)) = true := by
  show cloL c (ns.map .int) = true
  induction ns with
  | nil => unfold cloL; rfl
  | cons n r ih =>
    show (clo c (.int n) && cloL c (r.map .int)) = true
    rw [ih]
    rfl
end
section
variable {asg : D → Sg → Option Sg} {body : Sg → Store → Res Fl}
/-- a loop over what stays, by an invariant; the body never leaves it -/
theorem forL_inv {P : Nat → Sg → Store → Prop} : ∀ (xs : List D) (i : Nat) (σ : Sg) (st : Store), P i σ st → (∀ (j : Nat) (x : D) (σ : Sg) (st : Store), xs[j]? = some x → P (i + j) σ st → ∃ σ1, asg x σ = some σ1 ∧ (body σ1 st).S fun f st2 => ∃ σ2, f = .nx σ2 ∧ P (i + j + 1) σ2 st2) →
    (forL asg body xs σ st).S fun f st2 => ∃ σ2, f = .nx σ2 ∧ P (i + xs.length) σ2 st2
  | [], i, σ, st, h, _ => ⟨σ, rfl, h⟩
  | x :: r, i, σ, st, h, hs => by
    obtain ⟨σ1, h1, h2⟩ := hs 0 x σ st rfl h
    obtain ⟨f, st2, e, σ2, rfl, h3⟩ := S_get h2
    unfold forL
    simp only [h1, e]
    have ih := forL_inv r (i + 1) σ2 st2 h3 fun j y σ' st' hj hp => by
      have e1 : i + 1 + j = i + (j + 1) := by omega
      have := hs (j + 1) y σ' st' (by simpa using hj) (by rw [← e1]; exact hp)
      rw [← e1] at this
      exact this
    refine S_mono ih fun f st2 hq => ?_
    obtain ⟨σ2, e1, e2⟩ := hq
    refine ⟨σ2, e1, ?_⟩
    have e3 : i + 1 + r.length = i + (x :: r).length := by rw [List.length_cons]; omega
    rw [← e3]
    exact e2
theorem forX_inv {P : Nat → Sg → Store → Prop} {now : Store → Option (List D)} {xs : List D} (hn : ∀ i σ st, P i σ st → now st = some xs) (hs : ∀ (j : Nat) (x : D) (σ : Sg) (st : Store), xs[j]? = some x → P j σ st → ∃ σ1, asg x σ = some σ1 ∧ (body σ1 st).S fun f st2 => ∃ σ2, f = .nx σ2 ∧ P (j + 1) σ2 st2) :
    ∀ (n i : Nat) (σ : Sg) (st : Store), i + n = xs.length → P i σ st → (forX asg body now (n + 1) i σ st).S fun f st2 => ∃ σ2, f = .nx σ2 ∧ P xs.length σ2 st2
  | 0, i, σ, st, hi, h => by
    have e1 : xs[i]? = none := List.getElem?_eq_none (by omega)
    unfold forX
    simp only [hn i σ st h, e1]
    exact ⟨σ, rfl, by rw [show xs.length = i by omega]; exact h⟩
  | n + 1, i, σ, st, hi, h => by
    have e1 : xs[i]? = some (xs[i]'(by omega)) := List.getElem?_eq_getElem (by omega)
    obtain ⟨σ1, h1, h2⟩ := hs i _ σ st e1 h
    obtain ⟨f, st2, e, σ2, rfl, h3⟩ := S_get h2
    have ih := forX_inv hn hs n (i + 1) σ2 st2 (by omega) h3
    unfold forX
    simp only [hn i σ st h, e1, h1, e]
    exact ih
end
section
variable {asg : D → Sg → Option Sg} {test : Sg → Store → Res Bool} {el : Sg → Store → Res D} {σ : Sg} {p0 : Nat}
theorem push_ok {st : Store} {acc : List D} {y : D} (h : st[p0]? = some (.lst acc)) (hl : acc.length < 16777216) : push st p0 y = some (st.set p0 (.lst (acc ++ [y]))) := by
  unfold push
  rw [h]
  simp only
  rw [if_pos (show Nat.blt acc.length big = true from Nat.ble_eq.mpr hl)]
/-- a comprehension by an invariant -/
theorem lcL_inv {P : Nat → List D → Store → Prop} : ∀ (xs : List D) (i : Nat) (acc : List D) (st : Store), P i acc st → (∀ (j : Nat) (x : D) (acc : List D) (st : Store), xs[j]? = some x → P (i + j) acc st → ∃ σ', asg x σ = some σ' ∧ test σ' st = .ok true st ∧
    (el σ' st).S fun y st2 => st2[p0]? = some (.lst acc) ∧ acc.length < 16777216 ∧ P (i + j + 1) (acc ++ [y]) (st2.set p0 (.lst (acc ++ [y])))) → (lcL asg test el σ p0 xs st).S fun _ st' => ∃ acc', P (i + xs.length) acc' st'
  | [], i, acc, st, h, _ => ⟨acc, h⟩
  | x :: r, i, acc, st, h, hs => by
    obtain ⟨σ', h1, h2, h3⟩ := hs 0 x acc st rfl h
    obtain ⟨y, st2, e, g1, g2, g3⟩ := S_get h3
    unfold lcL
    simp only [h1, h2, e, push_ok g1 g2]
    have ih := lcL_inv r (i + 1) _ _ g3 fun j y' acc' st' hj hp => by
      have e1 : i + 1 + j = i + (j + 1) := by omega
      have := hs (j + 1) y' acc' st' (by simpa using hj) (by rw [← e1]; exact hp)
      rw [← e1] at this
      exact this
    refine S_mono ih fun f st2 hq => ?_
    have e3 : i + 1 + r.length = i + (x :: r).length := by rw [List.length_cons]; omega
    rw [← e3]
    exact hq
/-- nothing is taken, of a list at a place -/
theorem lcX_none {now : Store → Option (List D)} {xs : List D} {st : Store} (hn : now st = some xs) (h : ∀ x ∈ xs, ∃ σ', asg x σ = some σ' ∧ test σ' st = .ok false st) : ∀ (n i : Nat), i + n = xs.length → lcX asg test el σ p0 now (n + 1) i st = .ok () st
  | 0, i, hi => by
    have e1 : xs[i]? = none := List.getElem?_eq_none (by omega)
    unfold lcX
    simp only [hn, e1]
  | n + 1, i, hi => by
    have e1 : xs[i]? = some (xs[i]'(by omega)) := List.getElem?_eq_getElem (by omega)
    obtain ⟨σ', h1, h2⟩ := h _ (List.mem_of_getElem? e1)
    have ih := lcX_none hn h n (i + 1) (by omega)
    unfold lcX
    simp only [hn, e1, h1, h2]
    exact ih
end
section
variable {st : Store} {R : Rt} {b fu : Nat} {σ : Sg}
theorem S_lcI {ik : IK} {it e : E} {t : T} {vs : List Nat} {xs : List D} {st1 : Store} {P : Nat → List D → Store → Prop} (hw : ((evA R b it σ st).bind fun ds st0 => toW ik ds st0) = .ok (.items xs) st1) (h0 : P 0 [] (st1 ++ [O.lst []]))
    (hs : ∀ (j : Nat) (x : D) (acc : List D) (s : Store), xs[j]? = some x → P j acc s → ∃ σ', asgT t x (wipeD σ vs) = some σ' ∧ (ev R b e σ' s).S fun y s2 => s2[st1.length]? = some (.lst acc) ∧ acc.length < 16777216 ∧ P (j + 1) (acc ++ [y]) (s2.set st1.length (.lst (acc ++ [y])))) :
    (ev R b (.lc ik it t .nil e vs) σ st).S fun d s => d = .loc st1.length ∧ ∃ acc, P xs.length acc s := by
  rw [ev_lc, hw, bind_ok', S_bind]
  have key := lcL_inv (asg := asgT t) (test := fun σ st => evT R b .nil σ st) (el := fun σ st => ev R b e σ st) (σ := wipeD σ vs) (p0 := st1.length) (P := P) xs 0 [] _ h0 fun j x acc s hj hp => by
    rw [Nat.zero_add] at hp ⊢
    obtain ⟨σ', h1, h2⟩ := hs j x acc s hj hp
    exact ⟨σ', h1, by rw [evT_nil], h2⟩
  rw [Nat.zero_add] at key
  exact S_mono key fun _ s hq => ⟨rfl, hq⟩
theorem S_lcX0 {ik : IK} {it ts e : E} {t : T} {vs : List Nat} {r : Nat} {xs : List D} {st1 : Store} (hw : ((evA R b it σ st).bind fun ds st0 => toW ik ds st0) = .ok (.loc r) st1) (hr : st1[r]? = some (.lst xs))
    (h : ∀ x ∈ xs, ∃ σ', asgT t x (wipeD σ vs) = some σ' ∧ evT R b ts σ' (st1 ++ [O.lst []]) = .ok false (st1 ++ [O.lst []])) : ev R b (.lc ik it t ts e vs) σ st = .ok (.loc st1.length) (st1 ++ [O.lst []]) := by
  rw [ev_lc, hw, bind_ok']
  have hr' : (st1 ++ [O.lst []])[r]? = some (.lst xs) := by rw [List.getElem?_append_left (List.getElem?_eq_some_iff.mp hr).1]; exact hr
  have hn : nowL r (st1 ++ [O.lst []]) = some xs := by
    unfold nowL
    rw [hr']
  have hl : lenAt (st1 ++ [O.lst []]) r = xs.length := by
    unfold lenAt
    rw [hr']
  have e1 : lcW (asgT t) (fun σ st => evT R b ts σ st) (fun σ st => ev R b e σ st) (wipeD σ vs) st1.length (.loc r) (st1 ++ [O.lst []]) = .ok () (st1 ++ [O.lst []]) := by
    unfold lcW
    simp only
    rw [hl]
    exact lcX_none hn h xs.length 0 (Nat.zero_add _)
  rw [e1, bind_ok']
theorem toW_loc {r : Nat} {xs : List D} (h : st[r]? = some (.lst xs)) : toW .seq [.loc r] st = .ok (.loc r) st := by
  have e : walkD .seq [.loc r] = .loc r := rfl
  unfold toW
  rw [e, if_pos]
  show (nowL r st).isSome = true
  unfold nowL
  rw [h]
  rfl
end
theorem ex_for_loc {R : Rt} {fu b : Nat} {ik : IK} {it : E} {t : T} {bd : S} {σ : Sg} {st st1 : Store} {r : Nat} {xs : List D} {P : Nat → Sg → Store → Prop} (hw : ((evA R b it σ st).bind fun ds st0 => toW ik ds st0) = .ok (.loc r) st1) (hP : ∀ i σ s, P i σ s → s[r]? = some (.lst xs)) (h0 : P 0 σ st1)
    (hs : ∀ (j : Nat) (x : D) (σ : Sg) (st : Store), xs[j]? = some x → P j σ st → ∃ σ1, asgT t x σ = some σ1 ∧ (ex R fu b bd σ1 st).S fun f st2 => ∃ σ2, f = .nx σ2 ∧ P (j + 1) σ2 st2) : (ex R fu b (.for_ ik it t bd) σ st).S fun f st2 => ∃ σ2, f = .nx σ2 ∧ P xs.length σ2 st2 := by
  rw [ex_for_, hw, bind_ok']
  have hl : lenAt st1 r = xs.length := by
    unfold lenAt
    rw [hP 0 σ st1 h0]
  have key := forX_inv (asg := asgT t) (body := fun σ st => ex R fu b bd σ st) (P := P) (now := nowL r) (xs := xs) (fun i σ s hp => by
    unfold nowL
    rw [hP i σ s hp]) hs xs.length 0 σ st1 (Nat.zero_add _) h0
  show (forX (asgT t) (fun σ st => ex R fu b bd σ st) (nowL r) (lenAt st1 r + 1) 0 σ st1).S _
  rw [hl]
  exact key
end Mi
end
section
/-! Mi, part 40: plain tools: the deck, draws, picks, small data. -/
namespace Mi
open PySem L2
/-- the deck at p, its cells at q, no more than n draws so far -/
def Dk (n : Nat) (st : Store) (p q : Nat) : Prop := ∃ (t : Int) (c : Nat) (cells : List Int), st[p]? = some (.lst [.loc q, .int t, .int c]) ∧ st[q]? = some (.lst (cells.map .int)) ∧ q < p ∧ c ≤ n ∧ cells.length ≤ 63
/-- alike but at p and q -/
def Sm (p q : Nat) (st st' : Store) : Prop := st'.length = st.length ∧ ∀ i, i ≠ p → i ≠ q → st'[i]? = st[i]?
theorem Sm.refl {p q : Nat} {st : Store} : Sm p q st st := ⟨rfl, fun _ _ _ => rfl⟩
theorem Sm.trans {p q : Nat} {st st1 st2 : Store} (a : Sm p q st st1) (b : Sm p q st1 st2) : Sm p q st st2 := ⟨b.1.trans a.1, fun i h1 h2 => (b.2 i h1 h2).trans (a.2 i h1 h2)⟩
theorem nonneg_mod {a b : Int} (h : 0 < b) : 0 ≤ a % b := Int.emod_nonneg _ (by omega)
def drawS (ad ml : Int) : S := (.seq (.six (.var 0) (.cint 2) (.bin true .Add (.ix (.var 0) (.cint 2)) (.cint 1))) (.seq (.asg (.nm 2) (.ix (.var 0) (.cint 1))) (.seq (.ife (.cmp .NotEq (.ix (.var 0) (.cint 0)) (.lst false .nil)) (.seq (.asg (.nm 2) (.me .pop true (.ix (.var 0) (.cint 0)) .nil)) (.seq (.ife (.cmp .GtE (.var 2) (.bin false .Pow (.cint 10) (.cint 18))) (.seq (.ex (.me .append false (.ix (.var 0) (.cint 0)) (.cons (.bin false .FloorDiv (.var 2) (.var 1)) .nil))) (.seq (.ret (.bin false .Mod (.var 2) (.var 1))) .skip)) .skip) (.seq (.asg (.nm 2) (.bin true .Add (.var 2) (.ix (.var 0) (.cint 1)))) .skip))) .skip) (.seq (.asg (.nm 3) (.bin true .Mod (.bin false .Mult (.bin false .Add (.bin false .Add (.bin false .Mod (.var 2) (.cint 2147483587)) (.bin false .Mult (.bin false .Mult (.cint 65617) (.ix (.var 0) (.cint 2))) (.ix (.var 0) (.cint 2)))) (.cint ad)) (.cint ml)) (.cint 2147483647))) (.seq (.asg (.nm 3) (.bin true .Mod (.bin false .Add (.bin false .Add (.bin false .Mult (.var 3) (.var 3)) (.bin false .Mult (.cint 39373) (.ix (.var 0) (.cint 2)))) (.cint 23)) (.cint 2147483563))) (.seq (.ret (.bin false .Mod (.bin false .FloorDiv (.bin false .Mod (.bin false .Add (.bin false .Mult (.var 3) (.var 3)) (.bin false .Mult (.cint 30269) (.var 3))) (.cint 2147483629)) (.cint 128)) (.var 1))) .skip))))))
theorem drawG_run {tb : List Fn} {gs : List D} {ad ml : Int} {jd k n p q lim b : Nat} {st : Store} {Q : D → Store → Prop} (htb : tb[jd]? = some ⟨2, 2, true, drawS ad ml⟩) (ha0 : 0 ≤ ad) (ha1 : ad ≤ 1000000) (hm0 : 0 ≤ ml) (hm1 : ml ≤ 1000000) (h : Dk n st p q) (hn : n ≤ 1000000) (h0 : 0 < lim) (h1 : lim ≤ 1000000) (hQ : ∀ (j : Nat) (s : Store), j < lim → Dk (n + 1) s p q → Sm p q st s → Q (.int j) s) :
    (Mi.run tb gs 10000 (k+1) jd [.loc p, .int lim] b st).S Q := by
  obtain ⟨t, c, cells, hp, hq, hqp, hc, hcl⟩ := h
  have hpl : p < st.length := (List.getElem?_eq_some_iff.mp hp).1
  have hql : q < st.length := (List.getElem?_eq_some_iff.mp hq).1
  generalize hL : (lim : Int) = L
  refine S_run htb rfl ?_
  simp only [drawS]
  have hlim : 0 < L := by omega
  -- the places
  have w1 : ∀ b, setD b st (.loc p) (.int 2) (.int ((c : Int) + 1)) = some (st.set p (.lst [.loc q, .int t, .int ((c : Int) + 1)])) := by
    intro b
    show (match st[p]? with | some (.lst xs) => (match ixN xs.length 2 with | some j => wr b st p (.lst (xs.set j (.int ((c : Int) + 1)))) | none => none) | some (.dct ks vs) => _ | _ => none) = _
    rw [hp]
    show wr b st p (.lst [.loc q, .int t, .int ((c : Int) + 1)]) = _
    exact pwr_ok hp (fun z => by cases z) (by show cloL p _ = true; simp [cloL, clo, hqp])
  generalize hs1 : st.set p (.lst [.loc q, .int t, .int ((c : Int) + 1)]) = s1 at w1
  have hp1 : s1[p]? = some (.lst [.loc q, .int t, .int ((c : Int) + 1)]) := by rw [← hs1, List.getElem?_set_self hpl]
  have hq1 : s1[q]? = some (.lst (cells.map .int)) := by rw [← hs1, List.getElem?_set_ne (by omega)]; exact hq
  have hl1 : s1.length = st.length := by rw [← hs1, List.length_set]
  have hsm1 : ∀ i, i ≠ p → s1[i]? = st[i]? := fun i hi => by rw [← hs1, List.getElem?_set_ne (Ne.symm hi)]
  have i2 : ixD (.lst [.loc q, .int t, .int (c : Int)]) (.int 2) = .val (.int c) := rfl
  have i1 : ∀ x : Int, ixD (.lst [.loc q, .int t, .int x]) (.int 1) = .val (.int t) := fun _ => rfl
  have i0 : ∀ x : Int, ixD (.lst [.loc q, .int t, .int x]) (.int 0) = .val (.loc q) := fun _ => rfl
  have i2' : ∀ x : Int, ixD (.lst [.loc q, .int t, .int x]) (.int 2) = .val (.int x) := fun _ => rfl
  have d0 : der st (.loc p) = .lst [.loc q, .int t, .int (c : Int)] := der_locL hp
  have d1 : der s1 (.loc p) = .lst [.loc q, .int t, .int ((c : Int) + 1)] := der_locL hp1
  have d2 : der s1 (.loc q) = .lst (cells.map .int) := der_locL hq1
  have c0 : cmpS .NotEq s1 (.loc q) (.lst []) = some (!(cells.map D.int).isEmpty) := cmp_ne_L0 hq1
  have f0 : fits [] = true := rfl
  have m1 : mulOk 65617 ((c : Int) + 1) = true := mulOk_of (by decide) (by omega)
  have m2 : mulOk (65617 * ((c : Int) + 1)) ((c : Int) + 1) = true := mulOk_of (by omega) (by omega)
  have hcc : 65617 * ((c : Int) + 1) * ((c : Int) + 1) ≤ 65617 * 1000001 * 1000001 := by
    have a1 : (c : Int) + 1 ≤ 1000001 := by omega
    have a2 : (0 : Int) ≤ (c : Int) + 1 := by omega
    have := Int.mul_le_mul a1 a1 a2 (by omega)
    rw [Int.mul_assoc]
    omega
  have hcc0 : 0 ≤ 65617 * ((c : Int) + 1) * ((c : Int) + 1) := Int.mul_nonneg (by omega) (by omega)
  have m3 : ∀ x : Int, mulOk (x % 2147483587 + 65617 * ((c : Int) + 1) * ((c : Int) + 1) + ad) ml = true := fun x => mulOk_of (by
    have := Int.emod_nonneg x (show (2147483587 : Int) ≠ 0 by decide)
    have := Int.emod_lt_of_pos x (show (0 : Int) < 2147483587 by decide)
    omega) (by omega)
  have m4 : ∀ x : Int, mulOk (x % 2147483647) (x % 2147483647) = true := fun x => by
    have := Int.emod_nonneg x (show (2147483647 : Int) ≠ 0 by decide)
    have := Int.emod_lt_of_pos x (show (0 : Int) < 2147483647 by decide)
    exact mulOk_of (by omega) (by omega)
  have m5 : mulOk 39373 ((c : Int) + 1) = true := mulOk_of (by decide) (by omega)
  have m6 : ∀ x : Int, mulOk (x % 2147483563) (x % 2147483563) = true := fun x => by
    have := Int.emod_nonneg x (show (2147483563 : Int) ≠ 0 by decide)
    have := Int.emod_lt_of_pos x (show (0 : Int) < 2147483563 by decide)
    exact mulOk_of (by omega) (by omega)
  have m7 : ∀ x : Int, mulOk 30269 (x % 2147483563) = true := fun x => by
    have := Int.emod_nonneg x (show (2147483563 : Int) ≠ 0 by decide)
    have := Int.emod_lt_of_pos x (show (0 : Int) < 2147483563 by decide)
    exact mulOk_of (by decide) (by omega)
  have q1 : divOk L = true := divOk_of hlim (by omega)
  have q2 : divOk 128 = true := by decide
  have fin : ∀ (x : Int) (s : Store), s.length = st.length → (∃ cs : List Int, s[q]? = some (.lst (cs.map .int)) ∧ cs.length ≤ 63) → s[p]? = some (.lst [.loc q, .int t, .int ((c : Int) + 1)]) → (∀ i, i ≠ p → i ≠ q → s[i]? = st[i]?) → Q (.int (x % L)) (s.take st.length) := by
    intro x s hl hcs hsp hsm
    obtain ⟨cs, hcs, hcz⟩ := hcs
    have e1 := Int.emod_nonneg x (show L ≠ 0 by omega)
    have e2 := Int.emod_lt_of_pos x hlim
    rw [← hl, List.take_length]
    have e3 : x % L = (((x % L).toNat : Nat) : Int) := (Int.toNat_of_nonneg e1).symm
    rw [e3]
    exact hQ _ _ (by omega) ⟨t, c + 1, cs, by rw [hsp]; rfl, hcs, hqp, by omega, hcz⟩ ⟨hl, hsm⟩
  have bm : ∀ x : Int, binD .Mod (.int x) (.int L) = .val (.int (x % L)) := fun x => bin_mod hlim
  have bd : ∀ x : Int, binD .FloorDiv (.int x) (.int L) = .val (.int (x / L)) := fun x => bin_div q1
  have bm1 : ∀ x : Int, binD .Mod (.int x) (.int 2147483587) = .val (.int (x % 2147483587)) := fun x => bin_mod (by decide)
  have bm2 : ∀ x : Int, binD .Mod (.int x) (.int 2147483647) = .val (.int (x % 2147483647)) := fun x => bin_mod (by decide)
  have bm3 : ∀ x : Int, binD .Mod (.int x) (.int 2147483563) = .val (.int (x % 2147483563)) := fun x => bin_mod (by decide)
  have bm4 : ∀ x : Int, binD .Mod (.int x) (.int 2147483629) = .val (.int (x % 2147483629)) := fun x => bin_mod (by decide)
  have bd1 : ∀ x : Int, binD .FloorDiv (.int x) (.int 128) = .val (.int (x / 128)) := fun x => bin_div (by decide)
  have bx1 := bin_mul m1
  have bx2 := bin_mul m2
  have bx3 := fun x => bin_mul (m3 x)
  have bx4 := fun x => bin_mul (m4 x)
  have bx5 := bin_mul m5
  have bx6 := fun x => bin_mul (m6 x)
  have bx7 := fun x => bin_mul (m7 x)
  have he : ∀ (x : Int) (s : Store), endF true st.length (.int x) s = .ok (.int x) (s.take st.length) := fun _ _ => rfl
  have pw : binD .Pow (.int 10) (.int 18) = .val (.int (10 ^ 18)) := by rfl
  by_cases hcz : cells = []
  · subst hcz
    have c0' : cmpS .NotEq s1 (.loc q) (.lst []) = some false := c0
    simp only [ev_var, ev_cint, ev_cstr, ev_cbl, ev_cnon, ev_gl, ev_bty, ev_val, ev_tup, ev_lst, ev_dnew, ev_bin, ev_neg, ev_cmp, ev_cmp2, ev_and, ev_or, ev_one, ev_not, ev_ite, ev_ix, ev_sl, ev_rev, ev_call, ev_callk, ev_bi, ev_me, evA_nil, evA_cons, evT_and, evT_or, evT_one, evT_not, evT_ite, evT_nil, evT_cmp, evT_cmp2, evT_cons, evT_val, evP_nil, evP_val, ex_skip, ex_seq, ex_asg, ex_par, ex_six, ex_aug, ex_ex, ex_ret, ex_retN, ex_ife, ex_brk, ex_cont, S_bind, S_ok, some_some, asB_bl, asI_int, getS_z, getS_s, der_non, der_bl, der_int, pder_str, der_tup, der_lst, pder_dct, der_ty, cmp_lt_i, cmp_le_i, cmp_gt_i, cmp_ge_i, cmp_eq_i, cmp_ne_i, cmp_lt_s, cmp_le_s, cmp_eq_s, cmp_ne_s, cmp_eq_l0, cmp_ne_l0, fin_val, fin_dct, len_tup, len_lst, List.getElem?_cons_succ, List.getElem?_cons_zero, List.set_cons_succ, List.set_cons_zero, List.map_cons, List.map_nil, List.replicate, List.cons_append, List.nil_append, if_true, if_false, ite_true, ite_false, Bool.not_true, Bool.not_false, Bool.false_eq_true, Option.map_some, d0, i2, bin_add, w1, d1, i0, i1, i2', fin_lst f0, c0', asgT, bm1, bm2, bm3, bm4, bd1, bx1, bx2, bx3, bx4, bx5, bx6, bx7, bm, bd, he]
    exact fin _ s1 hl1 ⟨[], hq1, by decide⟩ hp1 fun i hi _ => hsm1 i hi
  · have c0' : cmpS .NotEq s1 (.loc q) (.lst []) = some true := by
      rw [c0]
      cases cells with
      | nil => exact absurd rfl hcz
      | cons _ _ => rfl
    obtain ⟨y, hy⟩ : ∃ y, cells = cells.dropLast ++ [y] := ⟨cells.getLast hcz, (List.dropLast_concat_getLast hcz).symm⟩
    generalize hini : cells.dropLast = ini at hy
    subst hy
    have po : ∀ b, meD b s1 .pop (.loc q) [] = .ok (.val (.int y)) (s1.set q (.lst (ini.map .int))) := by
      intro b
      show (match s1[q]? with | some (.lst xs) => meL b s1 q xs .pop [] | some (.dct ks vs) => Res.ok (meV .pop (.dct ks vs) []) s1 | _ => .bad) = _
      rw [hq1]
      show (match ((ini ++ [y]).map D.int)[((ini ++ [y]).map D.int).length - 1]? with
        | some z => (match wr b s1 q (.lst ((ini ++ [y]).map D.int).dropLast) with
          | some st' => Res.ok (PR.val z) st'
          | none => .bad)
        | none => .bad) = _
      have g1 : ((ini ++ [y]).map D.int)[((ini ++ [y]).map D.int).length - 1]? = some (.int y) := by simp
      have g2 : ((ini ++ [y]).map D.int).dropLast = ini.map .int := by simp
      rw [g1, g2]
      simp only
      rw [pwr_ok hq1 (fun z => by cases z) (cloO_ints ini)]
    generalize hs2 : s1.set q (.lst (ini.map .int)) = s2 at po
    have hp2 : s2[p]? = some (.lst [.loc q, .int t, .int ((c : Int) + 1)]) := by rw [← hs2, List.getElem?_set_ne (by omega)]; exact hp1
    have hq2 : s2[q]? = some (.lst (ini.map .int)) := by rw [← hs2, List.getElem?_set_self (by omega)]
    have hl2 : s2.length = st.length := by rw [← hs2, List.length_set]; exact hl1
    have hsm2 : ∀ i, i ≠ p → i ≠ q → s2[i]? = st[i]? := fun i h1 h2 => by rw [← hs2, List.getElem?_set_ne (Ne.symm h2)]; exact hsm1 i h1
    have d3 : der s2 (.loc p) = .lst [.loc q, .int t, .int ((c : Int) + 1)] := der_locL hp2
    have d4 : der s2 (.loc q) = .lst (ini.map .int) := der_locL hq2
    have k1 : ∀ xs : List D, isK .pop (.lst xs) = true := fun _ => rfl
    have k2 : ∀ xs : List D, isK .append (.lst xs) = true := fun _ => rfl
    by_cases hy18 : 10 ^ 18 ≤ y
    · have hy18' : decide (10 ^ 18 ≤ y) = true := decide_eq_true hy18
      have ap : ∀ b, meD b s2 .append (.loc q) [.int (y / L)] = .ok (.val .non) (s2.set q (.lst ((ini ++ [y / L]).map .int))) := by
        intro b
        rw [meD_loc hq2]
        refine meL_append (by rw [List.length_map]; rw [List.length_append, List.length_singleton] at hcl; omega) ?_
        rw [show ini.map D.int ++ [.int (y / L)] = (ini ++ [y / L]).map .int by simp]
        exact pwr_ok hq2 (fun z => by cases z) (cloO_ints _)
      generalize hs3 : s2.set q (.lst ((ini ++ [y / L]).map .int)) = s3 at ap
      have hp3 : s3[p]? = some (.lst [.loc q, .int t, .int ((c : Int) + 1)]) := by rw [← hs3, List.getElem?_set_ne (by omega)]; exact hp2
      have hq3 : s3[q]? = some (.lst ((ini ++ [y / L]).map .int)) := by rw [← hs3, List.getElem?_set_self (by omega)]
      have hl3 : s3.length = st.length := by rw [← hs3, List.length_set]; exact hl2
      have hsm3 : ∀ i, i ≠ p → i ≠ q → s3[i]? = st[i]? := fun i h1 h2 => by rw [← hs3, List.getElem?_set_ne (Ne.symm h2)]; exact hsm2 i h1 h2
      simp only [ev_var, ev_cint, ev_cstr, ev_cbl, ev_cnon, ev_gl, ev_bty, ev_val, ev_tup, ev_lst, ev_dnew, ev_bin, ev_neg, ev_cmp, ev_cmp2, ev_and, ev_or, ev_one, ev_not, ev_ite, ev_ix, ev_sl, ev_rev, ev_call, ev_callk, ev_bi, ev_me, evA_nil, evA_cons, evT_and, evT_or, evT_one, evT_not, evT_ite, evT_nil, evT_cmp, evT_cmp2, evT_cons, evT_val, evP_nil, evP_val, ex_skip, ex_seq, ex_asg, ex_par, ex_six, ex_aug, ex_ex, ex_ret, ex_retN, ex_ife, ex_brk, ex_cont, S_bind, S_ok, some_some, asB_bl, asI_int, getS_z, getS_s, der_non, der_bl, der_int, pder_str, der_tup, der_lst, pder_dct, der_ty, cmp_lt_i, cmp_le_i, cmp_gt_i, cmp_ge_i, cmp_eq_i, cmp_ne_i, cmp_lt_s, cmp_le_s, cmp_eq_s, cmp_ne_s, cmp_eq_l0, cmp_ne_l0, fin_val, fin_dct, len_tup, len_lst, List.getElem?_cons_succ, List.getElem?_cons_zero, List.set_cons_succ, List.set_cons_zero, List.map_cons, List.map_nil, List.replicate, List.cons_append, List.nil_append, if_true, if_false, ite_true, ite_false, Bool.not_true, Bool.not_false, Bool.false_eq_true, Option.map_some, d0, i2, bin_add, w1, d1, d2, k1, k2, po, ap, pw, hy18', i0, i1, i2', fin_lst f0, c0', asgT, bm, bd, d3, d4, he]
      exact fin _ s3 hl3 ⟨_, hq3, by rw [List.length_append, List.length_singleton] at hcl ⊢; exact hcl⟩ hp3 hsm3
    · have hy18' : decide (10 ^ 18 ≤ y) = false := decide_eq_false hy18
      simp only [ev_var, ev_cint, ev_cstr, ev_cbl, ev_cnon, ev_gl, ev_bty, ev_val, ev_tup, ev_lst, ev_dnew, ev_bin, ev_neg, ev_cmp, ev_cmp2, ev_and, ev_or, ev_one, ev_not, ev_ite, ev_ix, ev_sl, ev_rev, ev_call, ev_callk, ev_bi, ev_me, evA_nil, evA_cons, evT_and, evT_or, evT_one, evT_not, evT_ite, evT_nil, evT_cmp, evT_cmp2, evT_cons, evT_val, evP_nil, evP_val, ex_skip, ex_seq, ex_asg, ex_par, ex_six, ex_aug, ex_ex, ex_ret, ex_retN, ex_ife, ex_brk, ex_cont, S_bind, S_ok, some_some, asB_bl, asI_int, getS_z, getS_s, der_non, der_bl, der_int, pder_str, der_tup, der_lst, pder_dct, der_ty, cmp_lt_i, cmp_le_i, cmp_gt_i, cmp_ge_i, cmp_eq_i, cmp_ne_i, cmp_lt_s, cmp_le_s, cmp_eq_s, cmp_ne_s, cmp_eq_l0, cmp_ne_l0, fin_val, fin_dct, len_tup, len_lst, List.getElem?_cons_succ, List.getElem?_cons_zero, List.set_cons_succ, List.set_cons_zero, List.map_cons, List.map_nil, List.replicate, List.cons_append, List.nil_append, if_true, if_false, ite_true, ite_false, Bool.not_true, Bool.not_false, Bool.false_eq_true, Option.map_some, d0, i2, bin_add, w1, d1, d2, k1, po, pw, hy18', i0, i1, i2', fin_lst f0, c0', asgT, bm1, bm2, bm3, bm4, bd1, bx1, bx2, bx3, bx4, bx5, bx6, bx7, bm, bd, d3, he]
      exact fin _ s2 hl2 ⟨ini, hq2, by rw [List.length_append, List.length_singleton] at hcl; omega⟩ hp2 hsm2
/-- a list, as data or at a place that the deck does not use -/
def LsAt (st : Store) (p q : Nat) (d : D) (xs : List D) : Prop := d = .lst xs ∨ ∃ r, d = .loc r ∧ st[r]? = some (.lst xs) ∧ r ≠ p ∧ r ≠ q
theorem LsAt.der {st : Store} {p q : Nat} {d : D} {xs : List D} (h : LsAt st p q d xs) : Mi.der st d = .lst xs := by
  rcases h with rfl | ⟨r, rfl, h, _⟩
  · rfl
  · exact der_locL h
theorem LsAt.sm {st s : Store} {p q : Nat} {d : D} {xs : List D} (h : LsAt st p q d xs) (hs : Sm p q st s) : LsAt s p q d xs := by
  rcases h with rfl | ⟨r, rfl, h, h1, h2⟩
  · exact .inl rfl
  · exact .inr ⟨r, rfl, by rw [hs.2 r h1 h2]; exact h, h1, h2⟩
theorem Dk.take {n p q m : Nat} {st : Store} (h : Dk n st p q) (hm : p < m) : Dk n (st.take m) p q := by
  obtain ⟨t, c, cells, h1, h2, h3, h4, h5⟩ := h
  exact ⟨t, c, cells, by rw [List.getElem?_take_of_lt hm]; exact h1, by rw [List.getElem?_take_of_lt (by omega)]; exact h2, h3, h4, h5⟩
theorem Dk.lt {n p q : Nat} {st : Store} (h : Dk n st p q) : p < st.length ∧ q < p := by
  obtain ⟨t, c, cells, h1, h2, h3, _⟩ := h
  exact ⟨(List.getElem?_eq_some_iff.mp h1).1, h3⟩
theorem Dk.mono {n m p q : Nat} {st : Store} (h : Dk n st p q) (hm : n ≤ m) : Dk m st p q := by
  obtain ⟨t, c, cells, h1, h2, h3, h4, h5⟩ := h
  exact ⟨t, c, cells, h1, h2, h3, by omega, h5⟩
theorem ix_nat {xs : List D} {j : Nat} {x : D} (h : xs[j]? = some x) : ixD (.lst xs) (.int (j : Int)) = .val x := by
  show (match atI xs (j : Int) with | some v => PR.val v | none => .bad) = _
  rw [atI_eq, h]
theorem ixT_nat {xs : List D} {j : Nat} {x : D} (h : xs[j]? = some x) : ixD (.tup xs) (.int (j : Int)) = .val x := by
  show (match atI xs (j : Int) with | some v => PR.val v | none => .bad) = _
  rw [atI_eq, h]
def pickS (jd : Nat) : S := (.seq (.ret (.ix (.var 1) (.call "_law_draw" jd (.cons (.var 0) (.cons (.bi .len false (.cons (.var 1) .nil)) .nil))))) .skip)
theorem pickG_run {tb : List Fn} {gs : List D} {ad ml : Int} {jd jp k n p q b : Nat} {st : Store} {items : D} {xs : List D} {Q : D → Store → Prop} (htb : tb[jd]? = some ⟨2, 2, true, drawS ad ml⟩) (ha0 : 0 ≤ ad) (ha1 : ad ≤ 1000000) (hm0 : 0 ≤ ml) (hm1 : ml ≤ 1000000) (hpk : tb[jp]? = some ⟨2, 0, true, pickS jd⟩) (h : Dk n st p q) (hn : n ≤ 1000000) (hl : LsAt st p q items xs) (h0 : 0 < xs.length) (h1 : xs.length ≤ 1000000) (hg : ∀ x ∈ xs, clo st.length x = true)
    (hQ : ∀ (x : D) (s : Store), x ∈ xs → Dk (n + 1) s p q → Sm p q st s → Q x s) : (Mi.run tb gs 10000 (k+2) jp [.loc p, items] b st).S Q := by
  refine S_run hpk rfl ?_
  simp only [pickS]
  have e1 : biD .len [.lst xs] = .val (.int (xs.length : Int)) := rfl
  simp only [ev_var, ev_cint, ev_cstr, ev_cbl, ev_cnon, ev_gl, ev_bty, ev_val, ev_tup, ev_lst, ev_dnew, ev_bin, ev_neg, ev_cmp, ev_cmp2, ev_and, ev_or, ev_one, ev_not, ev_ite, ev_ix, ev_sl, ev_rev, ev_call, ev_callk, ev_bi, ev_me, evA_nil, evA_cons, evT_and, evT_or, evT_one, evT_not, evT_ite, evT_nil, evT_cmp, evT_cmp2, evT_cons, evT_val, evP_nil, evP_val, ex_skip, ex_seq, ex_asg, ex_par, ex_six, ex_aug, ex_ex, ex_ret, ex_retN, ex_ife, ex_brk, ex_cont, S_bind, S_ok, some_some, asB_bl, asI_int, getS_z, getS_s, der_non, der_bl, der_int, pder_str, der_tup, der_lst, pder_dct, der_ty, cmp_lt_i, cmp_le_i, cmp_gt_i, cmp_ge_i, cmp_eq_i, cmp_ne_i, cmp_lt_s, cmp_le_s, cmp_eq_s, cmp_ne_s, cmp_eq_l0, cmp_ne_l0, fin_val, fin_dct, len_tup, len_lst, List.getElem?_cons_succ, List.getElem?_cons_zero, List.set_cons_succ, List.set_cons_zero, List.map_cons, List.map_nil, List.replicate, List.cons_append, List.nil_append, if_true, if_false, ite_true, ite_false, Bool.not_true, Bool.not_false, Bool.false_eq_true, Option.map_some, hl.der, e1]
  refine drawG_run (k := k) htb ha0 ha1 hm0 hm1 h hn h0 h1 fun j s hj hd hs => ?_
  have e2 := (hl.sm hs).der
  obtain ⟨x, hx⟩ : ∃ x, xs[j]? = some x := ⟨_, List.getElem?_eq_getElem hj⟩
  have hm := List.mem_of_getElem? hx
  have hgx := hg x hm
  simp only [ev_var, ev_cint, ev_cstr, ev_cbl, ev_cnon, ev_gl, ev_bty, ev_val, ev_tup, ev_lst, ev_dnew, ev_bin, ev_neg, ev_cmp, ev_cmp2, ev_and, ev_or, ev_one, ev_not, ev_ite, ev_ix, ev_sl, ev_rev, ev_call, ev_callk, ev_bi, ev_me, evA_nil, evA_cons, evT_and, evT_or, evT_one, evT_not, evT_ite, evT_nil, evT_cmp, evT_cmp2, evT_cons, evT_val, evP_nil, evP_val, ex_skip, ex_seq, ex_asg, ex_par, ex_six, ex_aug, ex_ex, ex_ret, ex_retN, ex_ife, ex_brk, ex_cont, S_bind, S_ok, some_some, asB_bl, asI_int, getS_z, getS_s, der_non, der_bl, der_int, pder_str, der_tup, der_lst, pder_dct, der_ty, cmp_lt_i, cmp_le_i, cmp_gt_i, cmp_ge_i, cmp_eq_i, cmp_ne_i, cmp_lt_s, cmp_le_s, cmp_eq_s, cmp_ne_s, cmp_eq_l0, cmp_ne_l0, fin_val, fin_dct, len_tup, len_lst, List.getElem?_cons_succ, List.getElem?_cons_zero, List.set_cons_succ, List.set_cons_zero, List.map_cons, List.map_nil, List.replicate, List.cons_append, List.nil_append, if_true, if_false, ite_true, ite_false, Bool.not_true, Bool.not_false, Bool.false_eq_true, Option.map_some, e2, ix_nat hx]
  refine endF_S hgx ?_
  rw [← hs.1, List.take_length]
  exact hQ x s hm hd hs
theorem ins_mem (x : Str) : ∀ (l : List Str) (y : Str), y ∈ insS x l → y = x ∨ y ∈ l
  | [], y, h => by
    rcases List.mem_cons.mp h with h | h
    · exact .inl h
    · cases h
  | a :: r, y, h => by
    unfold insS at h
    split at h
    · rcases List.mem_cons.mp h with h | h
      · exact .inr (by rw [h]; exact List.mem_cons_self)
      · rcases ins_mem x r y h with h | h
        · exact .inl h
        · exact .inr (List.mem_cons_of_mem _ h)
    · rcases List.mem_cons.mp h with h | h
      · exact .inl h
      · exact .inr h
theorem ins_len (x : Str) : ∀ l : List Str, (insS x l).length = l.length + 1
  | [] => rfl
  | a :: r => by
    unfold insS
    split
    · simp [ins_len x r]
    · rfl
theorem sort_mem : ∀ (l : List Str) (y : Str), y ∈ sortS l → y ∈ l
  | [], y, h => by cases h
  | a :: r, y, h => by
    rcases ins_mem a _ y h with h | h
    · rw [h]; exact List.mem_cons_self
    · exact List.mem_cons_of_mem _ (sort_mem r y h)
theorem sort_len : ∀ l : List Str, (sortS l).length = l.length
  | [] => rfl
  | a :: r => by
    show (insS a (sortS r)).length = _
    rw [ins_len, sort_len r]
    rfl
theorem ix_str {z : Str} {j : Nat} {c : Nat} (hz : z.length ≤ big) (h : z.cps.toList[j]? = some c) : ixD (.str z) (.int (j : Int)) = .val (.str ⟨#[c]⟩) := by
  show (if Nat.ble z.length big = true then (match atI z.cps.toList (j : Int) with | some c => PR.val (.str ⟨#[c]⟩) | none => .bad) else .bad) = _
  rw [if_pos (Nat.ble_eq.mpr hz), atI_eq, h]
theorem sl_str {z : Str} {lo hi : Option Int} (hz : z.length ≤ big) : slD (.str z) lo hi = .val (.str (cutS z lo hi)) := by
  show (if Nat.ble z.length big = true then PR.val (.str (cutS z lo hi)) else .bad) = _
  rw [if_pos (Nat.ble_eq.mpr hz)]
theorem split_ok {a c : Str} {b : Nat} {st : Store} (h : ((c.length == 0) == false && Nat.ble (a.length + 2) big) = true) : meD b st .split (.str a) [.str c] = .ok (.newL ((Txt.split a c).map .str)) st := by
  show Res.ok (if ((c.length == 0) == false && Nat.ble (a.length + 2) big) = true then PR.newL ((Txt.split a c).map .str) else .bad) st = _
  rw [if_pos h]
theorem ex_for_items {R : Rt} {fu b : Nat} {ik : IK} {it : E} {t : T} {bd : S} {σ : Sg} {st st1 : Store} {xs : List D} {P : Nat → Sg → Store → Prop} (hw : ((evA R b it σ st).bind fun ds st0 => toW ik ds st0) = .ok (.items xs) st1) (h0 : P 0 σ st1)
    (hs : ∀ (j : Nat) (x : D) (σ : Sg) (st : Store), xs[j]? = some x → P j σ st → ∃ σ1, asgT t x σ = some σ1 ∧ (ex R fu b bd σ1 st).S fun f st2 => ∃ σ2, f = .nx σ2 ∧ P (j + 1) σ2 st2) : (ex R fu b (.for_ ik it t bd) σ st).S fun f st2 => ∃ σ2, f = .nx σ2 ∧ P xs.length σ2 st2 := by
  rw [ex_for_, hw, bind_ok']
  have := forL_inv (asg := asgT t) (body := fun σ st => ex R fu b bd σ st) (P := P) xs 0 σ st1 h0 fun j x σ st hj hp => by
    rw [Nat.zero_add] at hp ⊢
    exact hs j x σ st hj hp
  rw [Nat.zero_add] at this
  exact this
/-- plain, and repr(..) gives it -/
structure Rp (d : D) : Prop where
  g : gd d = true
  s : shD d = true
  k : (noDc d || noLs d) = true
  dp : dpD d ≤ 60
  w : wt d ≤ big
theorem wtL_len : ∀ xs : List D, 2 * xs.length ≤ wtL xs
  | [] => by unfold wtL; exact Nat.le_refl _
  | x :: r => by
    have := wtL_len r
    unfold wtL
    rw [List.length_cons]
    omega
theorem Rp.len {d : D} (h : Rp d) : ∀ xs, d = .tup xs → xs.length ≤ 16777216 := fun xs e => by
  subst e
  have h1 := h.w
  unfold wt at h1
  have h2 := wtL_len xs
  have h3 : big = 16777216 := rfl
  omega
def tfS (c : Bool) : Str := if c then "True" else "False"
theorem repr_bl (c : Bool) : reprD (.bl c) = .val (.str (tfS c)) := by
  cases c <;> rfl
theorem bi_repr (d : D) : biD .repr [d] = reprD d := rfl
/-- plain, small -/
structure El (k w : Nat) (e : D) : Prop where
  g : gd e = true
  s : shD e = true
  n : noDc e = true
  dp : dpD e ≤ k
  w : wt e ≤ w
theorem El.mono {k w k' w' : Nat} {e : D} (h : El k w e) (h1 : k ≤ k') (h2 : w ≤ w') : El k' w' e := ⟨h.g, h.s, h.n, Nat.le_trans h.dp h1, Nat.le_trans h.w h2⟩
theorem elL {k w : Nat} : ∀ {xs : List D}, (∀ e ∈ xs, El k w e) → gdL xs = true ∧ shL xs = true ∧ noDcL xs = true ∧ dpL xs ≤ k ∧ wtL xs ≤ xs.length * (w + 2)
  | [], _ => ⟨by unfold gdL; rfl, by unfold shL; rfl, by unfold noDcL; rfl, by unfold dpL; exact Nat.zero_le _, by unfold wtL; exact Nat.zero_le _⟩
  | x :: r, h => by
    have hx := h x List.mem_cons_self
    obtain ⟨h1, h2, h3, h4, h5⟩ := elL (xs := r) fun e he => h e (List.mem_cons_of_mem _ he)
    refine ⟨by unfold gdL; rw [hx.g, h1]; rfl, by unfold shL; rw [hx.s, h2]; rfl, by unfold noDcL; rw [hx.n, h3]; rfl, ?_, ?_⟩
    · unfold dpL
      exact Nat.max_le.mpr ⟨hx.dp, h4⟩
    · unfold wtL
      have := hx.w
      rw [List.length_cons, Nat.succ_mul]
      omega
theorem el_tup {k w : Nat} {xs : List D} (h : ∀ e ∈ xs, El k w e) : El (k + 1) (xs.length * (w + 2) + 3) (.tup xs) := by
  obtain ⟨h1, h2, h3, h4, h5⟩ := elL h
  exact ⟨by unfold gd; exact h1, by unfold shD; exact h2, by unfold noDc; exact h3, by unfold dpD; omega, by unfold wt; omega⟩
theorem el_lst {k w : Nat} {xs : List D} (h : ∀ e ∈ xs, El k w e) : El (k + 1) (xs.length * (w + 2) + 3) (.lst xs) := by
  obtain ⟨h1, h2, h3, h4, h5⟩ := elL h
  exact ⟨by unfold gd; exact h1, by unfold shD; exact h2, by unfold noDc; exact h3, by unfold dpD; omega, by unfold wt; omega⟩
theorem El.rp {k w : Nat} {e : D} (h : El k w e) (h1 : k ≤ 60) (h2 : w ≤ 16777216) : Rp e := ⟨h.g, h.s, by rw [h.n]; rfl, Nat.le_trans h.dp h1, Nat.le_trans h.w h2⟩
theorem el_int {i : Int} (h : i.natAbs < 2 ^ 200) : El 0 2000 (.int i) := ⟨by unfold gd; rfl, by unfold shD; exact decide_eq_true (Nat.lt_trans (log_lt h) (by decide)), by unfold noDc; rfl, by unfold dpD; exact Nat.le_refl _, by unfold wt; decide⟩
theorem el_str {x : Str} (h1 : gd (.str x) = true) (h2 : shD (.str x) = true) (h3 : x.length ≤ 100) : El 0 2000 (.str x) := ⟨h1, h2, by unfold noDc; rfl, by unfold dpD; exact Nat.le_refl _, by unfold wt; omega⟩
theorem str_app (x y : Str) : (x ++ y).cps.toList = x.cps.toList ++ y.cps.toList := by
  show (x.cps ++ y.cps).toList = _
  simp
theorem el_non : El 0 2000 .non := ⟨by unfold gd; rfl, by unfold shD; rfl, by unfold noDc; rfl, by unfold dpD; exact Nat.le_refl _, by unfold wt; decide⟩
theorem el_bl (c : Bool) : El 0 2000 (.bl c) := ⟨by unfold gd; rfl, by unfold shD; rfl, by unfold noDc; rfl, by unfold dpD; exact Nat.le_refl _, by unfold wt; decide⟩
theorem putA_mem {p : D → Bool} {v : D} : ∀ (ks vs : List D) (w : D), w ∈ putA p v ks vs → w = v ∨ w ∈ vs
  | [], vs, w, h => by
    have e : putA p v [] vs = vs := by cases vs <;> rfl
    rw [e] at h
    exact .inr h
  | k :: ks, [], w, h => by cases h
  | k :: ks, a :: vs, w, h => by
    rcases List.mem_cons.mp h with h | h
    · split at h
      · exact .inl h
      · exact .inr (by rw [h]; exact List.mem_cons_self)
    · rcases putA_mem ks vs w h with h | h
      · exact .inl h
      · exact .inr (List.mem_cons_of_mem _ h)
theorem putA_ln {p : D → Bool} {v : D} : ∀ (ks vs : List D), (putA p v ks vs).length = vs.length
  | [], vs => by cases vs <;> rfl
  | k :: ks, [] => rfl
  | k :: ks, a :: vs => congrArg (· + 1) (putA_ln ks vs)
theorem mrg_all {PK PV : D → Prop} : ∀ (l : List (D × D)) (ks vs : List D), (∀ p ∈ l, PK p.1 ∧ PV p.2) → (∀ k ∈ ks, PK k) → (∀ v ∈ vs, PV v) →
    (∀ k ∈ (mrgD l ks vs).1, PK k) ∧ (∀ v ∈ (mrgD l ks vs).2, PV v) ∧ (mrgD l ks vs).1.length ≤ ks.length + l.length ∧ (mrgD l ks vs).2.length ≤ vs.length + l.length
  | [], ks, vs, _, h1, h2 => ⟨h1, h2, Nat.le_refl _, Nat.le_refl _⟩
  | (k, v) :: r, ks, vs, h, h1, h2 => by
    obtain ⟨hk, hv⟩ := h (k, v) List.mem_cons_self
    have hp : (∀ x ∈ (Mi.putD k v ks vs).1, PK x) ∧ (∀ x ∈ (Mi.putD k v ks vs).2, PV x) ∧ (Mi.putD k v ks vs).1.length ≤ ks.length + 1 ∧ (Mi.putD k v ks vs).2.length ≤ vs.length + 1 := by
      unfold Mi.putD
      split
      · refine ⟨h1, fun x hx => ?_, Nat.le_succ _, by rw [putA_ln]; exact Nat.le_succ _⟩
        rcases putA_mem ks vs x hx with rfl | hx
        · exact hv
        · exact h2 x hx
      · refine ⟨fun x hx => ?_, fun x hx => ?_, by simp, by simp⟩
        · rcases List.mem_append.mp hx with hx | hx
          · exact h1 x hx
          · rw [List.mem_singleton.mp hx]; exact hk
        · rcases List.mem_append.mp hx with hx | hx
          · exact h2 x hx
          · rw [List.mem_singleton.mp hx]; exact hv
    obtain ⟨g1, g2, g3, g4⟩ := mrg_all r _ _ (fun p hp => h p (List.mem_cons_of_mem _ hp)) hp.1 hp.2.1
    refine ⟨g1, g2, ?_, ?_⟩
    · show (mrgD r _ _).1.length ≤ _
      rw [List.length_cons]
      have := hp.2.2.1
      omega
    · show (mrgD r _ _).2.length ≤ _
      rw [List.length_cons]
      have := hp.2.2.2
      omega
def rpB (d : D) : Bool := gd d && shD d && (noDc d || noLs d) && decide (dpD d ≤ 60) && Nat.ble (wt d) big
theorem rp_of {d : D} (h : rpB d = true) : Rp d := by
  unfold rpB at h
  simp only [Bool.and_eq_true, decide_eq_true_eq] at h
  exact ⟨h.1.1.1.1, h.1.1.1.2, h.1.1.2, h.1.2, Nat.le_of_ble_eq_true h.2⟩
theorem rp_all {ds : List D} (h : ds.all rpB = true) : ∀ x ∈ ds, Rp x := fun x hx => rp_of (List.all_eq_true.mp h x hx)
def deckBody (ad ml : Int) : S := .seq (.asg (.nm 3) (.bin true .Mod (.bin true .Add (.bin true .Add (.bin true .Mult (.var 3) (.cint ml)) (.bin true .Mod (.var 1) (.cint 2147483587))) (.cint ad)) (.cint 2147483629))) .skip
def DkP (ns : List Int) (r : Nat) (s0 : Store) (i : Nat) (σ : Sg) (s : Store) : Prop := s = s0 ∧ ∃ (o1 : Option D) (t : Int), σ = [some (.scr ns), o1, some (.loc r), some (.int t)] ∧ 0 ≤ t ∧ t < 2147483629
theorem deckG_loop {ad ml t0 : Int} {R : Rt} {ns : List Int} {r b : Nat} {xs : List Int} {s0 : Store} (hr : s0[r]? = some (.lst (xs.map .int))) (hm0 : 0 ≤ ml) (hm1 : ml ≤ 1000000) (ht0 : 0 ≤ t0) (ht1 : t0 < 2147483629) :
    (ex R 10000 b (.for_ .seq (.cons (.var 2) .nil) (.nm 1) (deckBody ad ml)) [some (.scr ns), none, some (.loc r), some (.int t0)] s0).S fun f s => ∃ σ2, f = .nx σ2 ∧ DkP ns r s0 (xs.map D.int).length σ2 s := by
  have a1 : evA R b (.cons (.var 2) .nil) [some (.scr ns), none, some (.loc r), some (.int t0)] s0 = .ok [.loc r] s0 := by
    simp only [evA_cons, evA_nil, ev_var, getS_s, getS_z, some_some, bind_ok']
  refine ex_for_loc (P := DkP ns r s0) (bind_ok a1 (toW_loc hr)) (fun i σ s h => by rw [h.1]; exact hr) ⟨rfl, none, t0, rfl, ht0, ht1⟩ ?_
  intro j x σ s hj hP
  obtain ⟨rfl, o1, t, rfl, h1, h2⟩ := hP
  rw [List.getElem?_map] at hj
  cases hx : xs[j]? with
  | none => rw [hx] at hj; cases hj
  | some y =>
    rw [hx] at hj
    cases hj
    refine ⟨_, rfl, ?_⟩
    unfold deckBody
    have b1 : binD .Mult (.int t) (.int ml) = .val (.int (t * ml)) := bin_mul (mulOk_of (by omega) (by omega))
    have b2 : ∀ x : Int, binD .Mod (.int x) (.int 2147483587) = .val (.int (x % 2147483587)) := fun x => bin_mod (by decide)
    have b3 : ∀ x : Int, binD .Mod (.int x) (.int 2147483629) = .val (.int (x % 2147483629)) := fun x => bin_mod (by decide)
    simp only [ev_var, ev_cint, ev_cstr, ev_cbl, ev_cnon, ev_gl, ev_bty, ev_val, ev_tup, ev_lst, ev_dnew, ev_bin, ev_neg, ev_cmp, ev_cmp2, ev_and, ev_or, ev_one, ev_not, ev_ite, ev_ix, ev_sl, ev_rev, ev_call, ev_callk, ev_bi, ev_me, evA_nil, evA_cons, evT_and, evT_or, evT_one, evT_not, evT_ite, evT_nil, evT_cmp, evT_cmp2, evT_cons, evT_val, evP_nil, evP_val, ex_skip, ex_seq, ex_asg, ex_par, ex_six, ex_aug, ex_ex, ex_ret, ex_retN, ex_ife, ex_brk, ex_cont, S_bind, S_ok, some_some, asB_bl, asI_int, getS_z, getS_s, der_non, der_bl, der_int, pder_str, der_tup, der_lst, pder_dct, der_ty, cmp_lt_i, cmp_le_i, cmp_gt_i, cmp_ge_i, cmp_eq_i, cmp_ne_i, cmp_lt_s, cmp_le_s, cmp_eq_s, cmp_ne_s, cmp_eq_l0, cmp_ne_l0, fin_val, fin_dct, len_tup, len_lst, List.getElem?_cons_succ, List.getElem?_cons_zero, List.set_cons_succ, List.set_cons_zero, List.map_cons, List.map_nil, List.replicate, List.cons_append, List.nil_append, if_true, if_false, ite_true, ite_false, Bool.not_true, Bool.not_false, Bool.false_eq_true, Option.map_some, asgT, b1, b2, b3, bin_add]
    exact ⟨_, rfl, rfl, some (.int y), _, rfl, Int.emod_nonneg _ (by decide), Int.emod_lt_of_pos _ (by decide)⟩
def deckS (t0 ad ml : Int) : S := (.seq (.par [2, 3] (.cons (.bi .list true (.cons (.sl true (.var 0) .nil (.val (.cint 63))) .nil)) (.cons (.cint t0) .nil))) (.seq (.for_ .seq (.cons (.var 2) .nil) (.nm 1) (deckBody ad ml)) (.seq (.ret (.lst true (.cons (.rev true (.var 2)) (.cons (.var 3) (.cons (.cint 0) .nil))))) .skip)))
theorem deckG_run {tb : List Fn} {gs : List D} {t0 ad ml : Int} {j k b : Nat} {ns : List Int} {st : Store} {Q : D → Store → Prop} (htb : tb[j]? = some ⟨1, 3, false, deckS t0 ad ml⟩) (hm0 : 0 ≤ ml) (hm1 : ml ≤ 1000000) (ht0 : 0 ≤ t0) (ht1 : t0 < 2147483629) (hQ : ∀ (s : Store), s.length = st.length + 4 → Dk 0 s (st.length + 3) (st.length + 2) → s.take st.length = st → Q (.loc (st.length + 3)) s) :
    (Mi.run tb gs 10000 (k+1) j [.scr ns] b st).S Q := by
  refine S_run htb rfl ?_
  simp only [deckS]
  have c63 : slD (.scr ns) none (some 63) = .newL ((ns.take 63).map .int) := by
    show PR.newL ((cut ns none (some ((63 : Nat) : Int))).map D.int) = _
    rw [cut_to]
  have hl63 : ((ns.take 63).map D.int).length ≤ 63 := by rw [List.length_map, List.length_take]; omega
  have fa : fits ((ns.take 63).map D.int) = true := fits_of (by have : big = 16777216 := rfl; omega)
  have fr : fits ((ns.take 63).map D.int).reverse = true := fits_of (by rw [List.length_reverse]; have : big = 16777216 := rfl; omega)
  generalize ha : (ns.take 63).map D.int = a at c63 hl63 fa fr
  have l1 : biD .list [.lst a] = .newL a := rfl
  generalize hs1 : st ++ [O.lst a] = s1
  have d1 : der s1 (.loc st.length) = .lst a := der_locL (by rw [← hs1]; simp)
  generalize hs2 : s1 ++ [O.lst a] = s2
  have n1 : s1.length = st.length + 1 := by rw [← hs1]; simp
  have n2 : s2.length = st.length + 2 := by rw [← hs2]; simp [n1]
  have g2 : s2[s1.length]? = some (.lst ((ns.take 63).map D.int)) := by rw [← hs2, ha]; simp
  have d2 : der s2 (.loc s1.length) = .lst a := der_locL (by rw [g2, ha])
  simp only [ev_var, ev_cint, ev_cstr, ev_cbl, ev_cnon, ev_gl, ev_bty, ev_val, ev_tup, ev_lst, ev_dnew, ev_bin, ev_neg, ev_cmp, ev_cmp2, ev_and, ev_or, ev_one, ev_not, ev_ite, ev_ix, ev_sl, ev_rev, ev_call, ev_callk, ev_bi, ev_me, evA_nil, evA_cons, evT_and, evT_or, evT_one, evT_not, evT_ite, evT_nil, evT_cmp, evT_cmp2, evT_cons, evT_val, evP_nil, evP_val, ex_skip, ex_seq, ex_asg, ex_par, ex_six, ex_aug, ex_ex, ex_ret, ex_retN, ex_ife, ex_brk, ex_cont, S_bind, S_ok, some_some, asB_bl, asI_int, getS_z, getS_s, der_non, der_bl, der_int, pder_str, der_tup, der_lst, pder_dct, der_ty, cmp_lt_i, cmp_le_i, cmp_gt_i, cmp_ge_i, cmp_eq_i, cmp_ne_i, cmp_lt_s, cmp_le_s, cmp_eq_s, cmp_ne_s, cmp_eq_l0, cmp_ne_l0, fin_val, fin_dct, len_tup, len_lst, List.getElem?_cons_succ, List.getElem?_cons_zero, List.set_cons_succ, List.set_cons_zero, List.map_cons, List.map_nil, List.replicate, List.cons_append, List.nil_append, if_true, if_false, ite_true, ite_false, Bool.not_true, Bool.not_false, Bool.false_eq_true, Option.map_some, asgT, setAll, der_scr, c63, fin_lstO fa, hs1, d1, l1, hs2]
  refine S_mono (deckG_loop (ns := ns) g2 hm0 hm1 ht0 ht1) fun f s hf => ?_
  obtain ⟨σ2, rfl, rfl, o1, t, rfl, h1, h2⟩ := hf
  have rv : revD (.lst a) = .newL a.reverse := rfl
  generalize hs3 : s ++ [O.lst a.reverse] = s3
  have f3 : ∀ u v w : D, fits [u, v, w] = true := fun _ _ _ => rfl
  have n3 : s3.length = st.length + 3 := by rw [← hs3]; simp [n2]
  simp only [ev_var, ev_cint, ev_cstr, ev_cbl, ev_cnon, ev_gl, ev_bty, ev_val, ev_tup, ev_lst, ev_dnew, ev_bin, ev_neg, ev_cmp, ev_cmp2, ev_and, ev_or, ev_one, ev_not, ev_ite, ev_ix, ev_sl, ev_rev, ev_call, ev_callk, ev_bi, ev_me, evA_nil, evA_cons, evT_and, evT_or, evT_one, evT_not, evT_ite, evT_nil, evT_cmp, evT_cmp2, evT_cons, evT_val, evP_nil, evP_val, ex_skip, ex_seq, ex_asg, ex_par, ex_six, ex_aug, ex_ex, ex_ret, ex_retN, ex_ife, ex_brk, ex_cont, S_bind, S_ok, some_some, asB_bl, asI_int, getS_z, getS_s, der_non, der_bl, der_int, pder_str, der_tup, der_lst, pder_dct, der_ty, cmp_lt_i, cmp_le_i, cmp_gt_i, cmp_ge_i, cmp_eq_i, cmp_ne_i, cmp_lt_s, cmp_le_s, cmp_eq_s, cmp_ne_s, cmp_eq_l0, cmp_ne_l0, fin_val, fin_dct, len_tup, len_lst, List.getElem?_cons_succ, List.getElem?_cons_zero, List.set_cons_succ, List.set_cons_zero, List.map_cons, List.map_nil, List.replicate, List.cons_append, List.nil_append, if_true, if_false, ite_true, ite_false, Bool.not_true, Bool.not_false, Bool.false_eq_true, Option.map_some, d2, rv, fin_lstO fr, hs3, fin_lstO (f3 _ _ _)]
  show Q (.loc s3.length) (s3 ++ [O.lst [.loc s.length, .int t, .int 0]])
  rw [n3, n2]
  refine hQ _ (by simp [n3]) ⟨t, 0, (ns.take 63).reverse, ?_, ?_, by omega, Nat.le_refl _, by rw [List.length_reverse, List.length_take]; omega⟩ ?_
  · rw [← n3]
    simp
  · rw [List.getElem?_append_left (by omega), ← n2, ← hs3]
    simp [← ha]
  · rw [← hs3, ← hs2, ← hs1]
    simp
end Mi
end
section
/-! Mi, part 41: plain tools: freezing plain data, comprehensions over a list at a place, loops that return, dicts. -/
namespace Mi
open PySem L2
theorem mapO_same {f : D → Option D} : ∀ {xs : List D}, (∀ x ∈ xs, f x = some x) → mapO f xs = some xs
  | [], _ => rfl
  | x :: r, h => by
    unfold mapO
    rw [h x List.mem_cons_self, mapO_same fun y hy => h y (List.mem_cons_of_mem _ hy)]
theorem dpL_mem : ∀ {xs : List D} {x : D}, x ∈ xs → dpD x ≤ dpL xs
  | [], _, h => by cases h
  | a :: r, x, h => by
    unfold dpL
    rcases List.mem_cons.mp h with rfl | h
    · exact Nat.le_max_left _ _
    · exact Nat.le_trans (dpL_mem h) (Nat.le_max_right _ _)
/-- plain data stays as it is -/
theorem frz_gd {b : Nat} {st : Store} : ∀ (k : Nat) (d : D), gd d = true → dpD d < k → frz b st k d = some d
  | 0, d, _, h => by omega
  | k + 1, d, hg, h => by
    have ih := frz_gd (b := b) (st := st) k
    cases d with
    | tup xs =>
      unfold gd at hg
      unfold dpD at h
      unfold frz
      simp only
      rw [mapO_same fun x hx => ih x (gdL_mem hg hx) (by have := dpL_mem hx; omega)]
    | lst xs =>
      unfold gd at hg
      unfold dpD at h
      unfold frz
      simp only
      rw [mapO_same fun x hx => ih x (gdL_mem hg hx) (by have := dpL_mem hx; omega)]
    | dct ks vs =>
      unfold gd at hg
      rw [Bool.and_eq_true] at hg
      unfold dpD at h
      unfold frz
      simp only
      rw [mapO_same fun x hx => ih x (gdL_mem hg.2 hx) (by have := dpL_mem hx; omega)]
    | loc i => unfold gd at hg; cases hg
    | ref i => unfold gd at hg; cases hg
    | ty i => unfold gd at hg; cases hg
    | scr i => unfold gd at hg; cases hg
    | _ => unfold frz; rfl
theorem frz_locL {b i k : Nat} {st : Store} {xs : List D} (h : st[i]? = some (.lst xs)) (hb : b ≤ i) (hg : gdL xs = true) (hd : dpL xs < k) : frz b st (k + 1) (.loc i) = some (.lst xs) := by
  unfold frz
  simp only
  rw [if_neg (by omega), h]
  simp only
  rw [mapO_same fun x hx => frz_gd k x (gdL_mem hg hx) (by have := dpL_mem hx; omega)]
theorem frz_locD {b i k : Nat} {st : Store} {ks vs : List D} (h : st[i]? = some (.dct ks vs)) (hb : b ≤ i) (hg : gdL vs = true) (hd : dpL vs < k) : frz b st (k + 1) (.loc i) = some (.dct ks vs) := by
  unfold frz
  simp only
  rw [if_neg (by omega), h]
  simp only
  rw [mapO_same fun x hx => frz_gd k x (gdL_mem hg hx) (by have := dpL_mem hx; omega)]
theorem endF_frz {n : Nat} {d d' : D} {st1 : Store} {Q : D → Store → Prop} (hc : clo n d = false) (hf : frz n st1 64 d = some d') (h : Q d' (st1.take n)) : (endF true n d st1).S Q := by
  unfold endF
  rw [if_pos rfl, hc, hf]
  exact h
theorem endF_lst {n i : Nat} {st1 : Store} {xs : List D} {Q : D → Store → Prop} (h : st1[i]? = some (.lst xs)) (hb : n ≤ i) (hg : gdL xs = true) (hd : dpL xs < 63) (hQ : Q (.lst xs) (st1.take n)) : (endF true n (.loc i) st1).S Q :=
  endF_frz (by unfold clo; exact decide_eq_false (by omega)) (frz_locL (k := 63) h hb hg hd) hQ
theorem endF_dct {n i : Nat} {st1 : Store} {ks vs : List D} {Q : D → Store → Prop} (h : st1[i]? = some (.dct ks vs)) (hb : n ≤ i) (hg : gdL vs = true) (hd : dpL vs < 63) (hQ : Q (.dct ks vs) (st1.take n)) : (endF true n (.loc i) st1).S Q :=
  endF_frz (by unfold clo; exact decide_eq_false (by omega)) (frz_locD (k := 63) h hb hg hd) hQ
/-! ### comprehensions over a list at a place -/
theorem lcX_pure {asg : D → Sg → Option Sg} {test : Sg → Store → Res Bool} {el : Sg → Store → Res D} {σ : Sg} {st : Store} {F : D → D} {P : D → Bool} {now : Store → Option (List D)} {xs : List D} (hn : ∀ acc : List D, now (st ++ [O.lst acc]) = some xs) (hz : xs.length ≤ 16777216)
    (h : ∀ x ∈ xs, ∀ acc : List D, ∃ σ', asg x σ = some σ' ∧ test σ' (st ++ [O.lst acc]) = .ok (P x) (st ++ [O.lst acc]) ∧ (P x = true → el σ' (st ++ [O.lst acc]) = .ok (F x) (st ++ [O.lst acc]))) : ∀ (n i : Nat) (acc : List D), i + n = xs.length → acc.length ≤ i →
    lcX asg test el σ st.length now (n + 1) i (st ++ [O.lst acc]) = .ok () (st ++ [O.lst (acc ++ ((xs.drop i).filter P).map F)])
  | 0, i, acc, hi, _ => by
    have e1 : xs[i]? = none := List.getElem?_eq_none (by omega)
    unfold lcX
    simp only [hn, e1]
    rw [List.drop_of_length_le (by omega)]
    simp
  | n + 1, i, acc, hi, ha => by
    have e1 : xs[i]? = some (xs[i]'(by omega)) := List.getElem?_eq_getElem (by omega)
    obtain ⟨σ', h1, h2, h3⟩ := h _ (List.mem_of_getElem? e1) acc
    have e2 : xs.drop i = xs[i]'(by omega) :: xs.drop (i + 1) := List.drop_eq_getElem_cons (by omega)
    unfold lcX
    simp only [hn, e1, h1, h2]
    cases hp : P (xs[i]'(by omega)) with
    | false =>
      rw [e2]
      simp only [List.filter_cons, hp]
      exact lcX_pure hn hz h n (i + 1) acc (by omega) (by omega)
    | true =>
      have hb : Nat.blt acc.length big = true := Nat.ble_eq.mpr (by show acc.length + 1 ≤ 16777216; omega)
      have hpush : push (st ++ [O.lst acc]) st.length (F (xs[i]'(by omega))) = some (st ++ [O.lst (acc ++ [F (xs[i]'(by omega))])]) := by
        unfold push
        rw [List.getElem?_append_right (Nat.le_refl _), Nat.sub_self]
        simp [hb]
      rw [e2]
      simp only [h3 hp, hpush, List.filter_cons, hp]
      rw [lcX_pure hn hz h n (i + 1) (acc ++ [F (xs[i]'(by omega))]) (by omega) (by rw [List.length_append, List.length_singleton]; omega)]
      simp
section
variable {st : Store} {R : Rt} {b fu : Nat} {σ : Sg}
theorem S_lcX {ik : IK} {it ts e : E} {t : T} {vs : List Nat} {r : Nat} {xs : List D} {st1 : Store} {F : D → D} {P : D → Bool} (hw : ((evA R b it σ st).bind fun ds st0 => toW ik ds st0) = .ok (.loc r) st1) (hr : st1[r]? = some (.lst xs)) (hl : xs.length ≤ 16777216)
    (h : ∀ x ∈ xs, ∀ acc : List D, ∃ σ', asgT t x (wipeD σ vs) = some σ' ∧ evT R b ts σ' (st1 ++ [O.lst acc]) = .ok (P x) (st1 ++ [O.lst acc]) ∧ (P x = true → ev R b e σ' (st1 ++ [O.lst acc]) = .ok (F x) (st1 ++ [O.lst acc]))) :
    ev R b (.lc ik it t ts e vs) σ st = .ok (.loc st1.length) (st1 ++ [O.lst ((xs.filter P).map F)]) := by
  rw [ev_lc, hw, bind_ok']
  have hn : ∀ acc : List D, nowL r (st1 ++ [O.lst acc]) = some xs := fun acc => by
    unfold nowL
    rw [List.getElem?_append_left (List.getElem?_eq_some_iff.mp hr).1, hr]
  have hl2 : lenAt (st1 ++ [O.lst []]) r = xs.length := by
    unfold lenAt
    rw [List.getElem?_append_left (List.getElem?_eq_some_iff.mp hr).1, hr]
  have e1 := lcX_pure (asg := asgT t) (test := fun σ st => evT R b ts σ st) (el := fun σ st => ev R b e σ st) (σ := wipeD σ vs) (st := st1) (F := F) (P := P) hn hl h xs.length 0 [] (Nat.zero_add _) (Nat.le_refl _)
  rw [List.nil_append, List.drop_zero] at e1
  show ((lcX (asgT t) (fun σ st => evT R b ts σ st) (fun σ st => ev R b e σ st) (wipeD σ vs) st1.length (nowL r) (lenAt (st1 ++ [O.lst []]) r + 1) 0 (st1 ++ [O.lst []])).bind fun _ st2 => Res.ok (D.loc st1.length) st2) = _
  rw [hl2, e1, bind_ok']
end
/-! ### a loop that may return -/
theorem forL_ret {asg : D → Sg → Option Sg} {body : Sg → Store → Res Fl} {st : Store} {P : D → Bool} {d : D} {I : Sg → Prop} : ∀ {xs : List D} {σ : Sg}, I σ → (∀ x ∈ xs, ∀ σ, I σ → ∃ σ1, asg x σ = some σ1 ∧ ((P x = true ∧ ∃ σ2, I σ2 ∧ body σ1 st = .ok (.nx σ2) st) ∨ (P x = false ∧ body σ1 st = .ok (.ret d) st))) →
    (xs.all P = true ∧ ∃ σ2, I σ2 ∧ forL asg body xs σ st = .ok (.nx σ2) st) ∨ (xs.all P = false ∧ forL asg body xs σ st = .ok (.ret d) st)
  | [], σ, h, _ => .inl ⟨rfl, σ, h, rfl⟩
  | x :: r, σ, h, hs => by
    obtain ⟨σ1, h1, h2⟩ := hs x List.mem_cons_self σ h
    unfold forL
    rcases h2 with ⟨hp, σ2, hI, hb⟩ | ⟨hp, hb⟩
    · simp only [h1, hb, List.all_cons, hp, Bool.true_and]
      exact forL_ret hI fun y hy => hs y (List.mem_cons_of_mem _ hy)
    · simp only [h1, hb, List.all_cons, hp, Bool.false_and]
      exact .inr ⟨trivial, trivial⟩
theorem ex_for_ret {R : Rt} {fu b : Nat} {ik : IK} {it : E} {t : T} {bd : S} {σ : Sg} {st st1 : Store} {xs : List D} {P : D → Bool} {d : D} {I : Sg → Prop} (hw : ((evA R b it σ st).bind fun ds st0 => toW ik ds st0) = .ok (.items xs) st1) (h : I σ)
    (hs : ∀ x ∈ xs, ∀ σ, I σ → ∃ σ1, asgT t x σ = some σ1 ∧ ((P x = true ∧ ∃ σ2, I σ2 ∧ ex R fu b bd σ1 st1 = .ok (.nx σ2) st1) ∨ (P x = false ∧ ex R fu b bd σ1 st1 = .ok (.ret d) st1))) :
    (xs.all P = true ∧ ∃ σ2, I σ2 ∧ ex R fu b (.for_ ik it t bd) σ st = .ok (.nx σ2) st1) ∨ (xs.all P = false ∧ ex R fu b (.for_ ik it t bd) σ st = .ok (.ret d) st1) := by
  rw [ex_for_, hw, bind_ok']
  exact forL_ret (asg := asgT t) (body := fun σ st => ex R fu b bd σ st) h hs
/-! ### comparisons, items -/
section
variable {st : Store}
theorem cmp_eq_t0 {xs : List D} : cmpS .Eq st (.tup xs) (.tup []) = some xs.isEmpty := id rfl
theorem cmp_ne_t0 {xs : List D} : cmpS .NotEq st (.tup xs) (.tup []) = some (!xs.isEmpty) := id rfl
theorem cmp_isnot_bl {a c : Bool} : cmpS .IsNot st (.bl a) (.bl c) = some (!decide (a = c)) := id rfl
theorem cmp_nin_d {x : Str} {ks vs : List D} : cmpS .NotIn st (.str x) (.dct ks vs) = some (!hasK (.str x) ks) := id rfl
theorem cmp_in_d {x : Str} {ks vs : List D} : cmpS .In st (.str x) (.dct ks vs) = some (hasK (.str x) ks) := id rfl
theorem cmp_gt_i' {i j : Int} : cmpS .Gt st (.int i) (.int j) = some (decide (j < i)) := id rfl
theorem int1_bl {c : Bool} : biD .int1 [.bl c] = .val (.int (if c then 1 else 0)) := id rfl
theorem ix_dct {x : Str} {ks vs : List D} {v : D} (h : getK (.str x) ks vs = some v) : ixD (.dct ks vs) (.str x) = .val v := by
  show (match getK (.str x) ks vs with | some v => PR.val v | none => .bad) = _
  rw [h]
theorem bin_mulT {xs : List D} {k : Int} (h1 : -1000000 ≤ k) (h2 : k ≤ 1000) (h3 : xs.length ≤ 1000) : binD .Mult (.tup xs) (.int k) = .val (.tup (rep k.toNat xs)) := by
  show (if (decide (-1000000 ≤ k) && decide (k ≤ 1000) && Nat.ble xs.length 1000) = true then PR.val (.tup (rep k.toNat xs)) else .bad) = _
  rw [if_pos]
  rw [decide_eq_true h1, decide_eq_true h2]
  exact Nat.ble_eq.mpr h3
theorem bin_mulL {xs : List D} {k : Int} (h1 : -1000000 ≤ k) (h2 : k ≤ 1000) (h3 : xs.length ≤ 1000) : binD .Mult (.lst xs) (.int k) = .newL (rep k.toNat xs) := by
  show (if (decide (-(2 ^ 63) ≤ k) && decide (k < 2 ^ 63) && Nat.ble (xs.length * k.toNat) big) = true then PR.newL (rep k.toNat xs) else .bad) = _
  have h4 : k.toNat ≤ 1000 := by omega
  have h5 : xs.length * k.toNat ≤ 1000 * 1000 := Nat.mul_le_mul h3 h4
  have h6 : big = 16777216 := rfl
  rw [if_pos]
  rw [decide_eq_true (show -(2 ^ 63) ≤ k by omega), decide_eq_true (show k < 2 ^ 63 by omega)]
  exact Nat.ble_eq.mpr (by omega)
theorem rep_one {x : D} : ∀ n : Nat, rep n [x] = List.replicate n x
  | 0 => rfl
  | n + 1 => by
    have := rep_one (x := x) n
    unfold rep at this ⊢
    rw [List.replicate_succ, List.flatten_cons, this, List.replicate_succ]
    rfl
/-- two lists of texts -/
theorem eqFlat_strs : ∀ xs ys : List Str, eqFlat (xs.map .str) (ys.map .str) = if xs.length = ys.length then some (decide (xs = ys)) else none
  | [], [] => rfl
  | [], y :: ys => by
    rw [if_neg (by simp)]
    rfl
  | x :: xs, [] => by
    rw [if_neg (by simp)]
    rfl
  | x :: xs, y :: ys => by
    show (match eqFlat (xs.map .str) (ys.map .str) with | some c => some (decide (x = y) && c) | none => none) = _
    rw [eqFlat_strs xs ys]
    by_cases h : xs.length = ys.length
    · rw [if_pos h, if_pos (by simp [h])]
      by_cases h1 : x = y <;> by_cases h2 : xs = ys <;> simp [h1, h2]
    · rw [if_neg h, if_neg (by simp [h])]
theorem gdL_strs {xs : List Str} (h : ∀ x ∈ xs, x.length ≤ big) : gdL (xs.map .str) = true := gdL_of fun d hd => by
  obtain ⟨x, hx, rfl⟩ := List.mem_map.mp hd
  unfold gd
  exact Nat.ble_eq.mpr (h x hx)
theorem dpL_leaf : ∀ {xs : List D}, (∀ x ∈ xs, dpD x = 0) → dpL xs = 0
  | [], _ => by unfold dpL; rfl
  | x :: r, h => by
    unfold dpL
    rw [h x List.mem_cons_self, dpL_leaf fun y hy => h y (List.mem_cons_of_mem _ hy)]
    rfl
theorem dpL_strs (xs : List Str) : dpL (xs.map .str) = 0 := dpL_leaf fun d hd => by
  obtain ⟨x, hx, rfl⟩ := List.mem_map.mp hd
  unfold dpD
  rfl
/-- a list of texts at a place, another one as data -/
theorem cmp_eq_LS {i : Nat} {xs ys : List Str} (h : st[i]? = some (.lst (xs.map .str))) (hx : ∀ x ∈ xs, x.length ≤ big) (hy : ∀ x ∈ ys, x.length ≤ big) (hl : xs.length = ys.length) : cmpS .Eq st (.loc i) (.lst (ys.map .str)) = some (decide (xs = ys)) := by
  show (match eqLen (der st (.loc i)) (.lst (ys.map .str)) with | some c => some c | none => eqF st (.loc i) (.lst (ys.map .str))) = _
  rw [der_locL h]
  by_cases h0 : xs = []
  · subst h0
    have : ys = [] := List.eq_nil_of_length_eq_zero hl.symm
    subst this
    rfl
  · have e1 : eqLen (.lst (xs.map .str)) (.lst (ys.map .str)) = none := by
      show (if (xs.map D.str).length = (ys.map D.str).length then (if (xs.map D.str).isEmpty then some true else none) else some false) = none
      rw [if_pos (by simp [hl]), if_neg]
      cases xs with
      | nil => exact absurd rfl h0
      | cons a r => simp
    rw [e1]
    show (match frz 0 st 64 (.loc i), frz 0 st 64 (.lst (ys.map .str)) with | some a, some b => eqD a b | _, _ => none) = _
    rw [frz_locL (k := 63) h (Nat.zero_le _) (gdL_strs hx) (by rw [dpL_strs]; decide), frz_gd 64 _ (by unfold gd; exact gdL_strs hy) (by unfold dpD; rw [dpL_strs]; decide)]
    show (if (xs.map D.str).length = (ys.map D.str).length then (match eqFlat (xs.map .str) (ys.map .str) with | some c => some c | none => eqP (.lst (xs.map .str)) (.lst (ys.map .str))) else some false) = _
    rw [if_pos (by simp [hl]), eqFlat_strs, if_pos hl]
end
/-! ### dicts by keys that are texts -/
theorem keq_str (x y : Str) : keq (.str x) (.str y) = decide (x = y) := rfl
theorem getK_put {k k' : Str} {v : D} : ∀ {ks vs : List D}, ks.length = vs.length → (∀ a ∈ ks, ∃ x : Str, a = .str x) → getK (.str k) (Mi.putD (.str k') v ks vs).1 (Mi.putD (.str k') v ks vs).2 = if k' = k then some v else getK (.str k) ks vs := by
  have A : ∀ {ks vs : List D}, ks.length = vs.length → (∀ a ∈ ks, ∃ x : Str, a = .str x) → hasK (.str k') ks = true → getK (.str k) ks (putA (fun a => keq a (.str k')) v ks vs) = if k' = k then some v else getK (.str k) ks vs := by
    intro ks
    induction ks with
    | nil => intro vs _ _ h; cases h
    | cons a ks ih =>
      intro vs hl hs hh
      cases vs with
      | nil => cases hl
      | cons w vs =>
        obtain ⟨x, rfl⟩ := hs a List.mem_cons_self
        have hs' := fun a ha => hs a (List.mem_cons_of_mem _ ha)
        have hl' : ks.length = vs.length := Nat.succ.inj hl
        show (if keq (.str x) (.str k) then some (if keq (.str x) (.str k') then v else w) else getK (.str k) ks (putA (fun a => keq a (.str k')) v ks vs)) = if k' = k then some v else (if keq (.str x) (.str k) then some w else getK (.str k) ks vs)
        simp only [keq_str, decide_eq_true_eq]
        by_cases h1 : x = k
        · subst h1
          simp only [if_true]
          by_cases h2 : k' = x
          · subst h2; simp
          · have h3 : ¬ x = k' := fun z => h2 z.symm
            simp [h2, h3]
        · simp only [h1, if_false]
          by_cases h4 : hasK (.str k') ks = true
          · exact ih hl' hs' h4
          · have h5 : x = k' := by
              unfold hasK at hh h4
              rw [List.any_cons, Bool.or_eq_true] at hh
              rcases hh with hh | hh
              · rw [keq_str] at hh
                exact of_decide_eq_true hh
              · exact absurd hh h4
            have h6 : ¬ k' = k := fun z => h1 (h5.trans z)
            rw [if_neg h6]
            -- nothing is put
            have h7 : ∀ {ks vs : List D}, (∀ a ∈ ks, ∃ x : Str, a = .str x) → hasK (.str k') ks = false → putA (fun a => keq a (.str k')) v ks vs = vs := by
              intro ks
              induction ks with
              | nil => intro vs _ _; cases vs <;> rfl
              | cons a ks ih2 =>
                intro vs hs hh
                cases vs with
                | nil => rfl
                | cons w vs =>
                  unfold hasK at hh
                  rw [List.any_cons, Bool.or_eq_false_iff] at hh
                  show (if keq a (.str k') then v else w) :: putA _ v ks vs = w :: vs
                  rw [hh.1, ih2 (fun a ha => hs a (List.mem_cons_of_mem _ ha)) hh.2]
                  rfl
            rw [h7 hs' (by cases q : hasK (.str k') ks with | true => exact absurd q h4 | false => rfl)]
  intro ks vs hl hs
  unfold Mi.putD
  by_cases hh : hasK (.str k') ks = true
  · rw [if_pos hh]
    exact A hl hs hh
  · rw [if_neg hh]
    show getK (.str k) (ks ++ [.str k']) (vs ++ [v]) = _
    clear A
    induction ks generalizing vs with
    | nil =>
      cases vs with
      | nil =>
        show (if keq (.str k') (.str k) then some v else none) = if k' = k then some v else none
        simp only [keq_str, decide_eq_true_eq]
      | cons w vs => cases hl
    | cons a ks ih =>
      cases vs with
      | nil => cases hl
      | cons w vs =>
        obtain ⟨x, rfl⟩ := hs a List.mem_cons_self
        have hh' : ¬ hasK (.str k') ks = true := fun z => hh (by unfold hasK at z ⊢; rw [List.any_cons, z, Bool.or_true])
        have hx : ¬ x = k' := fun z => hh (by unfold hasK; rw [List.any_cons, z, keq_str, decide_eq_true rfl, Bool.true_or])
        have e := ih (Nat.succ.inj hl) (fun a ha => hs a (List.mem_cons_of_mem _ ha)) hh'
        show (if keq (.str x) (.str k) then some w else getK (.str k) (ks ++ [.str k']) (vs ++ [v])) = if k' = k then some v else (if keq (.str x) (.str k) then some w else getK (.str k) ks vs)
        rw [e]
        simp only [keq_str, decide_eq_true_eq]
        by_cases h1 : x = k
        · have h2 : ¬ k' = k := fun z => hx (h1.trans z.symm)
          simp [h1, h2]
        · simp [h1]
theorem putD_len {k v : D} {ks vs : List D} (h : ks.length = vs.length) : (Mi.putD k v ks vs).1.length = (Mi.putD k v ks vs).2.length := by
  unfold Mi.putD
  split
  · rw [putA_ln]; exact h
  · simp [h]
theorem putD_keys {P : D → Prop} {k v : D} {ks vs : List D} (hk : P k) (h : ∀ a ∈ ks, P a) : ∀ a ∈ (Mi.putD k v ks vs).1, P a := by
  unfold Mi.putD
  split
  · exact h
  · intro a ha
    rcases List.mem_append.mp ha with ha | ha
    · exact h a ha
    · rw [List.mem_singleton.mp ha]; exact hk
theorem mrg_app (l : List (D × D)) (k v : D) : ∀ (ks vs : List D), mrgD (l ++ [(k, v)]) ks vs = Mi.putD k v (mrgD l ks vs).1 (mrgD l ks vs).2 := by
  induction l with
  | nil => intro ks vs; rfl
  | cons p r ih => intro ks vs; exact ih _ _
theorem mrg_len : ∀ (l : List (D × D)) {ks vs : List D}, ks.length = vs.length → (mrgD l ks vs).1.length = (mrgD l ks vs).2.length
  | [], _, _, h => h
  | (k, v) :: r, ks, vs, h => mrg_len r (putD_len h)
theorem getK_out {k : Str} : ∀ {l : List (D × D)} {ks vs : List D}, ks.length = vs.length → (∀ a ∈ ks, ∃ x : Str, a = .str x) → (∀ p ∈ l, ∃ x : Str, p.1 = .str x ∧ x ≠ k) → getK (.str k) (mrgD l ks vs).1 (mrgD l ks vs).2 = getK (.str k) ks vs
  | [], ks, vs, _, _, _ => rfl
  | (a, v) :: r, ks, vs, hl, hs, hp => by
    obtain ⟨x, e, hx⟩ := hp (a, v) List.mem_cons_self
    replace e : a = .str x := e
    subst e
    have := getK_out (k := k) (l := r) (putD_len (k := .str x) (v := v) hl) (putD_keys (P := fun a => ∃ x : Str, a = .str x) ⟨x, rfl⟩ hs) fun p h => hp p (List.mem_cons_of_mem _ h)
    show getK (.str k) (mrgD r _ _).1 (mrgD r _ _).2 = _
    rw [this, getK_put hl hs, if_neg hx]
theorem getK_in {k : Str} {w : D} : ∀ {l : List (D × D)} {ks vs : List D}, ks.length = vs.length → (∀ a ∈ ks, ∃ x : Str, a = .str x) → (∀ p ∈ l, ∃ x : Str, p.1 = .str x) → (l.map (·.1)).Nodup → (D.str k, w) ∈ l → getK (.str k) (mrgD l ks vs).1 (mrgD l ks vs).2 = some w
  | [], ks, vs, _, _, _, _, h => by cases h
  | (a, v) :: r, ks, vs, hl, hs, hp, hn, h => by
    obtain ⟨x, e⟩ := hp (a, v) List.mem_cons_self
    replace e : a = .str x := e
    subst e
    rw [List.map_cons, List.nodup_cons] at hn
    have hp' := fun p h => hp p (List.mem_cons_of_mem _ h)
    have h1 := putD_len (k := .str x) (v := v) hl
    have h2 := putD_keys (P := fun a => ∃ x : Str, a = .str x) (v := v) (vs := vs) ⟨x, rfl⟩ hs
    show getK (.str k) (mrgD r _ _).1 (mrgD r _ _).2 = _
    rcases List.mem_cons.mp h with h | h
    · injection h with e1 e2
      injection e1 with e1
      subst e1 e2
      rw [getK_out h1 h2, getK_put hl hs, if_pos rfl]
      intro p hpm
      obtain ⟨y, hy⟩ := hp' p hpm
      refine ⟨y, hy, fun z => hn.1 ?_⟩
      rw [← z, ← hy]
      exact List.mem_map.mpr ⟨p, hpm, rfl⟩
    · exact getK_in h1 h2 hp' hn.2 h
theorem hasK_getK {k : Str} : ∀ {ks vs : List D}, ks.length = vs.length → hasK (.str k) ks = (getK (.str k) ks vs).isSome
  | [], vs, _ => by cases vs <;> rfl
  | a :: ks, [], h => by cases h
  | a :: ks, w :: vs, h => by
    have ih := hasK_getK (k := k) (Nat.succ.inj h)
    unfold hasK at ih ⊢
    show (keq a (.str k) || ks.any _) = (if keq a (.str k) then some w else getK (.str k) ks vs).isSome
    rw [ih]
    cases keq a (.str k) <;> rfl
theorem getK_mem {k : D} : ∀ {ks vs : List D} {v : D}, getK k ks vs = some v → v ∈ vs
  | [], vs, v, h => by cases vs <;> cases h
  | a :: ks, [], v, h => by cases h
  | a :: ks, w :: vs, v, h => by
    have e : getK k (a :: ks) (w :: vs) = if keq a k then some w else getK k ks vs := rfl
    rw [e] at h
    split at h
    · cases h; exact List.mem_cons_self
    · exact List.mem_cons_of_mem _ (getK_mem h)
end Mi
end
section
/-! Mi, part 42: plain tools: picks of a tuple, what stays. -/
namespace Mi
open PySem L2
theorem pickT_run {tb : List Fn} {gs : List D} {ad ml : Int} {jd jp k n p q b : Nat} {st : Store} {xs : List D} {Q : D → Store → Prop} (htb : tb[jd]? = some ⟨2, 2, true, drawS ad ml⟩) (ha0 : 0 ≤ ad) (ha1 : ad ≤ 1000000) (hm0 : 0 ≤ ml) (hm1 : ml ≤ 1000000) (hpk : tb[jp]? = some ⟨2, 0, true, pickS jd⟩) (h : Dk n st p q) (hn : n ≤ 1000000) (h0 : 0 < xs.length) (h1 : xs.length ≤ 1000000) (hg : ∀ x ∈ xs, clo st.length x = true)
    (hQ : ∀ (x : D) (s : Store), x ∈ xs → Dk (n + 1) s p q → Sm p q st s → Q x s) : (Mi.run tb gs 10000 (k+2) jp [.loc p, .tup xs] b st).S Q := by
  refine S_run hpk rfl ?_
  simp only [pickS]
  simp only [ev_var, ev_cint, ev_cstr, ev_cbl, ev_cnon, ev_gl, ev_bty, ev_val, ev_tup, ev_lst, ev_dnew, ev_bin, ev_neg, ev_cmp, ev_cmp2, ev_and, ev_or, ev_one, ev_not, ev_ite, ev_ix, ev_sl, ev_rev, ev_call, ev_callk, ev_bi, ev_me, evA_nil, evA_cons, evT_and, evT_or, evT_one, evT_not, evT_ite, evT_nil, evT_cmp, evT_cmp2, evT_cons, evT_val, evP_nil, evP_val, ex_skip, ex_seq, ex_asg, ex_par, ex_six, ex_aug, ex_ex, ex_ret, ex_retN, ex_ife, ex_brk, ex_cont, S_bind, S_ok, some_some, asB_bl, asI_int, getS_z, getS_s, der_non, der_bl, der_int, pder_str, der_tup, der_lst, pder_dct, der_ty, cmp_lt_i, cmp_le_i, cmp_gt_i, cmp_ge_i, cmp_eq_i, cmp_ne_i, cmp_lt_s, cmp_le_s, cmp_eq_s, cmp_ne_s, cmp_eq_l0, cmp_ne_l0, fin_val, fin_dct, len_tup, len_lst, List.getElem?_cons_succ, List.getElem?_cons_zero, List.set_cons_succ, List.set_cons_zero, List.map_cons, List.map_nil, List.replicate, List.cons_append, List.nil_append, if_true, if_false, ite_true, ite_false, Bool.not_true, Bool.not_false, Bool.false_eq_true, Option.map_some]
  refine drawG_run (k := k) htb ha0 ha1 hm0 hm1 h hn h0 h1 fun j s hj hd hs => ?_
  obtain ⟨x, hx⟩ : ∃ x, xs[j]? = some x := ⟨_, List.getElem?_eq_getElem hj⟩
  have hm := List.mem_of_getElem? hx
  have hgx := hg x hm
  simp only [ev_var, ev_cint, ev_cstr, ev_cbl, ev_cnon, ev_gl, ev_bty, ev_val, ev_tup, ev_lst, ev_dnew, ev_bin, ev_neg, ev_cmp, ev_cmp2, ev_and, ev_or, ev_one, ev_not, ev_ite, ev_ix, ev_sl, ev_rev, ev_call, ev_callk, ev_bi, ev_me, evA_nil, evA_cons, evT_and, evT_or, evT_one, evT_not, evT_ite, evT_nil, evT_cmp, evT_cmp2, evT_cons, evT_val, evP_nil, evP_val, ex_skip, ex_seq, ex_asg, ex_par, ex_six, ex_aug, ex_ex, ex_ret, ex_retN, ex_ife, ex_brk, ex_cont, S_bind, S_ok, some_some, asB_bl, asI_int, getS_z, getS_s, der_non, der_bl, der_int, pder_str, der_tup, der_lst, pder_dct, der_ty, cmp_lt_i, cmp_le_i, cmp_gt_i, cmp_ge_i, cmp_eq_i, cmp_ne_i, cmp_lt_s, cmp_le_s, cmp_eq_s, cmp_ne_s, cmp_eq_l0, cmp_ne_l0, fin_val, fin_dct, len_tup, len_lst, List.getElem?_cons_succ, List.getElem?_cons_zero, List.set_cons_succ, List.set_cons_zero, List.map_cons, List.map_nil, List.replicate, List.cons_append, List.nil_append, if_true, if_false, ite_true, ite_false, Bool.not_true, Bool.not_false, Bool.false_eq_true, Option.map_some, ixT_nat hx]
  refine endF_S hgx ?_
  rw [← hs.1, List.take_length]
  exact hQ x s hm hd hs
/-- what a def leaves behind -/
theorem Sm.of_take {p q : Nat} {st s : Store} (h : st.length ≤ s.length) (hs : ∀ i, i < st.length → i ≠ p → i ≠ q → s[i]? = st[i]?) : Sm p q st (s.take st.length) := by
  refine ⟨by rw [List.length_take]; omega, fun i h1 h2 => ?_⟩
  by_cases hi : i < st.length
  · rw [List.getElem?_take_of_lt hi]
    exact hs i hi h1 h2
  · rw [List.getElem?_eq_none (by rw [List.length_take]; omega), List.getElem?_eq_none (by omega)]
theorem Dk.same {n p q : Nat} {st s : Store} (h : Dk n st p q) (h1 : s[p]? = st[p]?) (h2 : s[q]? = st[q]?) : Dk n s p q := by
  obtain ⟨t, c, cells, a1, a2, a3, a4, a5⟩ := h
  exact ⟨t, c, cells, by rw [h1]; exact a1, by rw [h2]; exact a2, a3, a4, a5⟩
theorem Dk.app {n p q : Nat} {st : Store} (h : Dk n st p q) (r : Store) : Dk n (st ++ r) p q :=
  h.same (by rw [List.getElem?_append_left h.lt.1]) (by rw [List.getElem?_append_left (by have := h.lt; omega)])
theorem Dk.set {n p q i : Nat} {o : O} {st : Store} (h : Dk n st p q) (h1 : i ≠ p) (h2 : i ≠ q) : Dk n (st.set i o) p q :=
  h.same (by rw [List.getElem?_set_ne h1]) (by rw [List.getElem?_set_ne h2])
theorem rng_getp {lo : Int} {n j : Nat} {x : D} (h : (rng lo n)[j]? = some x) : j < n ∧ x = .int (lo + (j : Int)) := by
  unfold rng at h
  rw [List.getElem?_map] at h
  by_cases hj : j < n
  · rw [List.getElem?_range hj] at h
    cases h
    exact ⟨hj, rfl⟩
  · rw [List.getElem?_eq_none (by simp; omega)] at h
    cases h
theorem rng_len (lo : Int) (n : Nat) : (rng lo n).length = n := by unfold rng; simp
theorem rng_mem {lo : Int} {n : Nat} {x : D} (h : x ∈ rng lo n) : ∃ j : Nat, j < n ∧ x = .int (lo + (j : Int)) := by
  unfold rng at h
  obtain ⟨j, hj, rfl⟩ := List.mem_map.mp h
  exact ⟨j, List.mem_range.mp hj, rfl⟩
/-- while: by what is left -/
theorem whileF_inv {c : Sg → Store → Res Bool} {body : Sg → Store → Res Fl} {P : Nat → Sg → Store → Prop} (hc : ∀ m σ st, P m σ st → c σ st = .ok (decide (0 < m)) st) (hb : ∀ m σ st, P (m + 1) σ st → (body σ st).S fun f st2 => ∃ σ2, f = .nx σ2 ∧ P m σ2 st2) :
    ∀ (fu m : Nat) (σ : Sg) (st : Store), m < fu → P m σ st → (whileF c body fu σ st).S fun f st2 => ∃ σ2, f = .nx σ2 ∧ P 0 σ2 st2
  | 0, m, σ, st, h, _ => by omega
  | fu + 1, 0, σ, st, h, hp => by
    unfold whileF
    rw [hc 0 σ st hp]
    exact ⟨σ, rfl, hp⟩
  | fu + 1, m + 1, σ, st, h, hp => by
    obtain ⟨f, st2, e, σ2, rfl, h2⟩ := S_get (hb m σ st hp)
    unfold whileF
    rw [hc (m + 1) σ st hp, decide_eq_true (Nat.succ_pos m)]
    simp only [e]
    exact whileF_inv hc hb fu m σ2 st2 (by omega) h2
theorem seqIx_nat {j n : Nat} (h : j < n) : seqIndex? (j : Int) n = some j := by
  unfold seqIndex?
  have h1 : ¬ ((j : Int) < 0) := by omega
  simp only [if_neg h1]
  rw [if_pos]
  · simp
  · rw [Bool.and_eq_true]
    exact ⟨decide_eq_true (by omega), decide_eq_true (by omega)⟩
theorem meL_popi {b i j : Nat} {st st' : Store} {xs : List D} {y : D} (h : xs[j]? = some y) (hl : xs.length ≤ 16777216) (hw : wr b st i (.lst (xs.eraseIdx j)) = some st') : meL b st i xs .popi [.int (j : Int)] = .ok (.val y) st' := by
  have hj := (List.getElem?_eq_some_iff.mp h).1
  unfold meL
  simp only
  rw [if_pos, seqIx_nat hj]
  · simp only
    rw [h]
    simp only
    rw [hw]
  · rw [Bool.and_eq_true]
    exact ⟨decide_eq_true (by omega), decide_eq_true (by omega)⟩
theorem mem_erase {α : Type} {xs : List α} {j : Nat} {x y : α} (h : xs[j]? = some y) (hx : x ∈ xs) : x = y ∨ x ∈ xs.eraseIdx j := by
  obtain ⟨hj, e⟩ := List.getElem?_eq_some_iff.mp h
  rw [List.eraseIdx_eq_take_drop_succ]
  have e2 : xs = xs.take j ++ xs[j] :: xs.drop (j + 1) := by simp
  rw [e2] at hx
  rcases List.mem_append.mp hx with hx | hx
  · exact .inr (List.mem_append_left _ hx)
  · rcases List.mem_cons.mp hx with hx | hx
    · exact .inl (hx.trans e)
    · exact .inr (List.mem_append_right _ hx)
end Mi
end
section
namespace K01
open PySem L2 Mi
def f__law_deck : Fn := ⟨1, 3, false, (.seq (.par [2, 3] (.cons (.bi .list true (.cons (.sl true (.var 0) .nil (.val (.cint 63))) .nil)) (.cons (.cint 91019) .nil))) (.seq (.for_ .seq (.cons (.var 2) .nil) (.nm 1) (.seq (.asg (.nm 3) (.bin true .Mod (.bin true .Add (.bin true .Add (.bin true .Mult (.var 3) (.cint 69621)) (.bin true .Mod (.var 1) (.cint 2147483587))) (.cint 37)) (.cint 2147483629))) .skip)) (.seq (.ret (.lst true (.cons (.rev true (.var 2)) (.cons (.var 3) (.cons (.cint 0) .nil))))) .skip)))⟩
def f__law_draw : Fn := ⟨2, 2, true, (.seq (.six (.var 0) (.cint 2) (.bin true .Add (.ix (.var 0) (.cint 2)) (.cint 1))) (.seq (.asg (.nm 2) (.ix (.var 0) (.cint 1))) (.seq (.ife (.cmp .NotEq (.ix (.var 0) (.cint 0)) (.lst false .nil)) (.seq (.asg (.nm 2) (.me .pop true (.ix (.var 0) (.cint 0)) .nil)) (.seq (.ife (.cmp .GtE (.var 2) (.bin false .Pow (.cint 10) (.cint 18))) (.seq (.ex (.me .append false (.ix (.var 0) (.cint 0)) (.cons (.bin false .FloorDiv (.var 2) (.var 1)) .nil))) (.seq (.ret (.bin false .Mod (.var 2) (.var 1))) .skip)) .skip) (.seq (.asg (.nm 2) (.bin true .Add (.var 2) (.ix (.var 0) (.cint 1)))) .skip))) .skip) (.seq (.asg (.nm 3) (.bin true .Mod (.bin false .Mult (.bin false .Add (.bin false .Add (.bin false .Mod (.var 2) (.cint 2147483587)) (.bin false .Mult (.bin false .Mult (.cint 65617) (.ix (.var 0) (.cint 2))) (.ix (.var 0) (.cint 2)))) (.cint 37)) (.cint 69621)) (.cint 2147483647))) (.seq (.asg (.nm 3) (.bin true .Mod (.bin false .Add (.bin false .Add (.bin false .Mult (.var 3) (.var 3)) (.bin false .Mult (.cint 39373) (.ix (.var 0) (.cint 2)))) (.cint 23)) (.cint 2147483563))) (.seq (.ret (.bin false .Mod (.bin false .FloorDiv (.bin false .Mod (.bin false .Add (.bin false .Mult (.var 3) (.var 3)) (.bin false .Mult (.cint 30269) (.var 3))) (.cint 2147483629)) (.cint 128)) (.var 1))) .skip))))))⟩
def f__law_names : Fn := ⟨2, 7, true, (.seq (.par [5, 6, 7] (.cons (.cstr "abcdefghijklmnopqrstuvwxyz") (.cons (.call "_law_draw" 1 (.cons (.var 0) (.cons (.cint 4) .nil))) (.cons (.call "_law_draw" 1 (.cons (.var 0) (.cons (.cint 26) .nil))) .nil)))) (.seq (.asg (.nm 2) (.me .split true (.cstr "case part tag call ask same is not both either yes no and or none one root union take") (.cons (.cstr " ") .nil))) (.seq (.asg (.nm 2) (.bin true .Add (.var 2) (.me .split false (.cstr "never number plus least most make test gather else rank tags voids") (.cons (.cstr " ") .nil)))) (.seq (.asg (.nm 3) (.lst true .nil)) (.seq (.for_ .range1 (.cons (.var 1) .nil) (.nm 4) (.seq (.asg (.nm 8) (.ix (.var 5) (.bin false .Mod (.bin false .Add (.var 7) (.bin false .Mult (.cint 5) (.var 4))) (.cint 26)))) (.seq (.ex (.me .append false (.var 3) (.cons (.ix (.lst false (.cons (.var 8) (.cons (.ix (.var 2) (.bin false .Mod (.bin false .Add (.var 7) (.bin false .Mult (.cint 3) (.var 4))) (.cint 31))) (.cons (.ite (.cmp .Lt (.var 4) (.cint 8)) (.sl false (.cstr "zyxwvuts") .nil (.val (.bin false .Add (.cint 1) (.bin false .Mod (.var 4) (.cint 8))))) (.bin false .Add (.var 8) (.sl false (.cstr "void") .nil (.val (.cint 3))))) (.cons (.bin false .Add (.cstr "abcdefg") (.var 8)) .nil))))) (.var 6)) .nil))) .skip))) (.seq (.ret (.bi .sorted false (.cons (.var 3) .nil))) .skip))))))⟩
def f__law_pick : Fn := ⟨2, 0, true, (.seq (.ret (.ix (.var 1) (.call "_law_draw" 1 (.cons (.var 0) (.cons (.bi .len false (.cons (.var 1) .nil)) .nil))))) .skip)⟩
def f__law_tags : Fn := ⟨1, 2, true, (.seq (.asg (.nm 1) (.call "_law_names" 2 (.cons (.var 0) (.cons (.bin false .Add (.cint 1) (.call "_law_draw" 1 (.cons (.var 0) (.cons (.cint 6) .nil)))) .nil)))) (.seq (.ret (.bi .tuple false (.cons (.lc .seq (.cons (.var 1) .nil) (.nm 2) .nil (.tup (.cons (.var 2) (.cons (.call "_law_pick" 3 (.cons (.var 0) (.cons (.lst false (.cons (.cint 0) (.cons (.cint 0) (.cons (.cint 1) (.cons (.cint 2) (.cons (.cint 2) (.cons (.cint 3) .nil))))))) .nil))) .nil))) [2]) .nil))) .skip))⟩
def f__law_rows : Fn := ⟨2, 10, true, (.seq (.par [5, 6, 7] (.cons (.bin true .Add (.bi .list false (.cons (.var 1) .nil)) (.lst false (.cons (.tup (.cons (.cstr "void") (.cons (.cint 0) .nil))) .nil))) (.cons (.call "_law_draw" 1 (.cons (.var 0) (.cons (.cint 6) .nil))) (.cons (.lst true .nil) .nil)))) (.seq (.asgc 2 .seq (.cons (.var 1) .nil) (.nm 8) (.cons (.cmp .Gt (.ix (.var 8) (.cint 1)) (.cint 0)) .nil) (.var 8) [8]) (.seq (.ife (.and (.cmp .Eq (.var 6) (.cint 0)) (.one (.cmp .NotEq (.var 2) (.lst false .nil)))) (.seq (.asg (.tp (.cons (.nm 9) (.cons (.nm 10) .nil))) (.call "_law_pick" 3 (.cons (.var 0) (.cons (.var 2) .nil)))) (.seq (.asg (.nm 3) (.bin true .Add (.cint 1) (.call "_law_draw" 1 (.cons (.var 0) (.cons (.cint 23) .nil))))) (.seq (.asgc 7 .range1 (.cons (.bin false .Sub (.var 3) (.cint 1)) .nil) (.nm 4) .nil (.tup (.cons (.var 9) (.cons (.bin false .Mult (.tup (.cons (.bin false .Add (.var 4) (.cint 1)) .nil)) (.var 10)) .nil))) [4]) (.seq (.ret (.bi .tuple false (.cons (.bin false .Add (.var 7) (.lst false (.cons (.tup (.cons (.var 9) (.cons (.bin false .Mult (.tup (.cons (.call "_law_pick" 3 (.cons (.var 0) (.cons (.lst false (.cons (.cint 0) (.cons (.var 3) (.cons (.var 3) .nil)))) .nil))) .nil)) (.var 10)) .nil))) (.cons (.tup (.cons (.cstr "void") (.cons (.tup .nil) .nil))) .nil)))) .nil))) .skip)))) .skip) (.seq (.asg (.nm 3) (.bin true .Add (.cint 1) (.call "_law_draw" 1 (.cons (.var 0) (.cons (.cint 12) .nil))))) (.seq (.for_ .range1 (.cons (.var 3) .nil) (.nm 4) (.seq (.asg (.tp (.cons (.nm 9) (.cons (.nm 10) .nil))) (.call "_law_pick" 3 (.cons (.var 0) (.cons (.ite (.cmp .Eq (.call "_law_draw" 1 (.cons (.var 0) (.cons (.cint 3) .nil))) (.cint 0)) (.var 5) (.var 1)) .nil)))) (.seq (.ex (.me .append false (.var 7) (.cons (.tup (.cons (.var 9) (.cons (.bi .tuple false (.cons (.lc .range1 (.cons (.var 10) .nil) (.nm 11) .nil (.call "_law_draw" 1 (.cons (.var 0) (.cons (.var 3) .nil))) [11]) .nil)) .nil))) .nil))) .skip))) (.seq (.ret (.bi .tuple false (.cons (.var 7) .nil))) .skip))))))⟩
def f_field_counts : Fn := ⟨1, 0, true, (.seq (.ret (.dst (.bi .dict1 false (.cons (.var 0) .nil)) (.cons (.gl "VOID_TAG" 0) (.cons (.cint 0) .nil)))) .skip)⟩
def f_is_integer : Fn := ⟨1, 0, true, (.seq (.ret (.and (.bi .isi false (.cons (.var 0) (.cons (.bty .tint) .nil))) (.one (.not (.bi .isi false (.cons (.var 0) (.cons (.bty .tbool) .nil))))))) .skip)⟩
def f_is_index : Fn := ⟨2, 0, true, (.seq (.ret (.and (.call "is_integer" 7 (.cons (.var 0) .nil)) (.one (.cmp2 .LtE .Lt (.cint 0) (.var 0) (.var 1))))) .skip)⟩
def f_is_row : Fn := ⟨3, 3, true, (.seq (.ife (.or (.not (.val (.bi .isi false (.cons (.var 2) (.cons (.bty .ttuple) .nil))))) (.one (.cmp .NotEq (.bi .len false (.cons (.var 2) .nil)) (.cint 2)))) (.seq (.ret (.cbl false)) .skip) .skip) (.seq (.asg (.tp (.cons (.nm 3) (.cons (.nm 4) .nil))) (.var 2)) (.seq (.ife (.or (.not (.val (.bi .isi false (.cons (.var 3) (.cons (.bty .tstr) .nil))))) (.or (.cmp .NotIn (.var 3) (.var 0)) (.one (.not (.val (.bi .isi false (.cons (.var 4) (.cons (.bty .ttuple) .nil)))))))) (.seq (.ret (.cbl false)) .skip) .skip) (.seq (.ret (.and (.cmp .Eq (.bi .len false (.cons (.var 4) .nil)) (.ix (.var 0) (.var 3))) (.one (.all1 0 .seq (.cons (.var 4) .nil) (.nm 5) .nil (.call "is_index" 8 (.cons (.var 5) (.cons (.var 1) .nil))) [5])))) .skip))))⟩
def f_is_sheet : Fn := ⟨2, 2, true, (.seq (.ife (.or (.not (.val (.bi .isi false (.cons (.var 1) (.cons (.bty .ttuple) .nil))))) (.one (.cmp .Eq (.var 1) (.tup .nil)))) (.seq (.ret (.cbl false)) .skip) .skip) (.seq (.asg (.nm 2) (.call "field_counts" 6 (.cons (.var 0) .nil))) (.seq (.ret (.all1 1 .seq (.cons (.var 1) .nil) (.nm 3) .nil (.call "is_row" 9 (.cons (.var 2) (.cons (.bi .len false (.cons (.var 1) .nil)) (.cons (.var 3) .nil)))) [3])) .skip)))⟩
def f__law_is_sheet : Fn := ⟨2, 2, true, (.seq (.ife (.or (.not (.val (.bi .isi false (.cons (.var 1) (.cons (.bty .ttuple) .nil))))) (.one (.cmp .Eq (.var 1) (.tup .nil)))) (.seq (.ret (.cbl false)) .skip) .skip) (.seq (.for_ .seq (.cons (.var 1) .nil) (.nm 2) (.seq (.ife (.or (.not (.val (.bi .isi false (.cons (.var 2) (.cons (.bty .ttuple) .nil))))) (.or (.cmp .NotEq (.bi .len false (.cons (.var 2) .nil)) (.cint 2)) (.or (.not (.val (.bi .isi false (.cons (.ix (.var 2) (.cint 0)) (.cons (.bty .tstr) .nil))))) (.one (.cmp .NotIn (.ix (.var 2) (.cint 0)) (.var 0)))))) (.seq (.ret (.cbl false)) .skip) .skip) (.seq (.ife (.or (.not (.val (.bi .isi false (.cons (.ix (.var 2) (.cint 1)) (.cons (.bty .ttuple) .nil))))) (.one (.cmp .NotEq (.bi .len false (.cons (.ix (.var 2) (.cint 1)) .nil)) (.ix (.var 0) (.ix (.var 2) (.cint 0)))))) (.seq (.ret (.cbl false)) .skip) .skip) (.seq (.for_ .seq (.cons (.ix (.var 2) (.cint 1)) .nil) (.nm 3) (.seq (.ife (.or (.not (.val (.bi .isi false (.cons (.var 3) (.cons (.bty .tint) .nil))))) (.or (.val (.bi .isi false (.cons (.var 3) (.cons (.bty .tbool) .nil)))) (.one (.not (.cmp2 .LtE .Lt (.cint 0) (.var 3) (.bi .len false (.cons (.var 1) .nil))))))) (.seq (.ret (.cbl false)) .skip) .skip) .skip)) .skip)))) (.seq (.ret (.cbl true)) .skip)))⟩
def f__law_right : Fn := ⟨2, 4, true, (.seq (.par [3, 4] (.cons (.bi .repr true (.cons (.var 1) .nil)) (.cons (.bi .repr true (.cons (.call "_law_is_sheet" 11 (.cons (.bi .dict1 false (.cons (.bin false .Add (.bi .list false (.cons (.var 0) .nil)) (.lst false (.cons (.tup (.cons (.cstr "void") (.cons (.cint 0) .nil))) .nil))) .nil)) (.cons (.var 1) .nil))) .nil)) .nil))) (.seq (.asg (.nm 2) (.lst true (.cons (.call "is_sheet" 10 (.cons (.var 0) (.cons (.var 1) .nil))) (.cons (.callk "is_sheet" 10 0 ["thing", "signature"] [1, 0] .nil (.cons (.var 1) (.cons (.var 0) .nil))) .nil)))) (.seq (.ret (.and (.cmp .Eq (.lc .seq (.cons (.var 2) .nil) (.nm 5) .nil (.bi .repr false (.cons (.var 5) .nil)) [5]) (.lst false (.cons (.var 4) (.cons (.var 4) .nil)))) (.one (.cmp .Eq (.bi .repr false (.cons (.var 1) .nil)) (.var 3))))) .skip)))⟩
def f__law_copies : Fn := ⟨2, 7, true, (.seq (.asg (.tp (.cons (.nm 4) (.cons (.nm 5) .nil))) (.tup (.cons (.lst true (.cons (.cint 0) .nil)) (.cons (.lst true .nil) .nil)))) (.seq (.for_ .range1 (.cons (.bi .len false (.cons (.var 1) .nil)) .nil) (.nm 2) (.seq (.asg (.nm 5) (.bin true .Add (.var 5) (.bin false .Mult (.lst false (.cons (.var 2) .nil)) (.bin false .Add (.bi .int1 false (.cons (.cmp .Gt (.var 2) (.cint 0)) .nil)) (.call "_law_draw" 1 (.cons (.var 0) (.cons (.ix (.lst false (.cons (.cint 4) (.cons (.cint 2) .nil))) (.bi .int1 false (.cons (.cmp .Gt (.bi .len false (.cons (.var 1) .nil)) (.cint 15)) .nil))) .nil))))))) .skip)) (.seq (.whil (.cmp .NotEq (.var 5) (.lst false .nil)) (.seq (.ex (.me .append false (.var 4) (.cons (.me .popi false (.var 5) (.cons (.call "_law_draw" 1 (.cons (.var 0) (.cons (.bi .len false (.cons (.var 5) .nil)) .nil))) .nil)) .nil))) .skip)) (.seq (.asg (.nm 3) (.lst true .nil)) (.seq (.for_ .seq (.cons (.var 4) .nil) (.nm 2) (.seq (.asgc 6 .seq (.cons (.ix (.ix (.var 1) (.var 2)) (.cint 1)) .nil) (.nm 7) .nil (.call "_law_pick" 3 (.cons (.var 0) (.cons (.lc .range1 (.cons (.bi .len false (.cons (.var 4) .nil)) .nil) (.nm 8) (.cons (.cmp .Eq (.ix (.var 4) (.var 8)) (.var 7)) .nil) (.var 8) [8]) .nil))) [7]) (.seq (.ex (.me .append false (.var 3) (.cons (.tup (.cons (.ix (.ix (.var 1) (.var 2)) (.cint 0)) (.cons (.bi .tuple false (.cons (.var 6) .nil)) .nil))) .nil))) .skip))) (.seq (.ret (.bi .tuple false (.cons (.var 3) .nil))) .skip))))))⟩
def f__law_bent_row : Fn := ⟨4, 6, true, (.seq (.asg (.tp (.cons (.nm 6) (.cons (.nm 7) .nil))) (.var 3)) (.seq (.par [8, 9] (.cons (.call "_law_draw" 1 (.cons (.var 0) (.cons (.bin false .Add (.bi .len false (.cons (.var 7) .nil)) (.cint 1)) .nil))) (.cons (.bi .len true (.cons (.var 2) .nil)) .nil))) (.seq (.asg (.nm 4) (.call "_law_pick" 3 (.cons (.var 0) (.cons (.lst false (.cons (.var 9) (.cons (.neg (.cint 1)) (.cons (.cbl true) (.cons .cnon (.cons (.cstr "0") (.cons (.tup (.cons (.cint 0) .nil)) (.cons (.bin false .Pow (.cint 10) (.cint 39)) (.cons (.bin false .Sub (.var 9) (.cint 1)) (.cons (.cint 0) .nil)))))))))) .nil)))) (.seq (.asg (.nm 5) (.lst true (.cons (.tup (.cons (.var 6) (.cons (.bin false .Add (.bin false .Add (.sl false (.var 7) .nil (.val (.var 8))) (.tup (.cons (.var 4) .nil))) (.sl false (.var 7) (.val (.bin false .Add (.var 8) (.cint 1))) .nil)) .nil))) (.cons (.tup (.cons (.var 6) (.cons (.bin false .Add (.var 7) (.tup (.cons (.cint 0) .nil))) .nil))) (.cons (.tup (.cons (.var 6) (.cons (.sl false (.var 7) (.val (.cint 1)) .nil) .nil))) .nil))))) (.seq (.asg (.nm 5) (.bin true .Add (.var 5) (.lst false (.cons (.tup (.cons (.var 6) (.cons (.bi .list false (.cons (.var 7) .nil)) .nil))) (.cons (.tup (.cons (.ix (.call "_law_pick" 3 (.cons (.var 0) (.cons (.var 1) .nil))) (.cint 0)) (.cons (.var 7) .nil))) (.cons (.tup (.cons (.bin false .Add (.var 6) (.cstr "x")) (.cons (.var 7) .nil))) (.cons (.tup (.cons (.cstr "void") (.cons (.var 7) .nil))) .nil))))))) (.seq (.asg (.nm 5) (.bin true .Add (.var 5) (.lst false (.cons (.tup (.cons (.cstr "void") (.cons (.tup .nil) .nil))) (.cons (.lst false (.cons (.var 6) (.cons (.var 7) .nil))) (.cons (.tup (.cons (.var 6) .nil)) (.cons (.var 6) (.cons (.tup (.cons (.var 6) (.cons (.var 7) (.cons (.tup .nil) .nil)))) (.cons (.tup (.cons (.var 7) (.cons (.var 6) .nil))) (.cons (.tup (.cons .cnon (.cons (.var 7) .nil))) .nil)))))))))) (.seq (.ret (.call "_law_pick" 3 (.cons (.var 0) (.cons (.bin false .Add (.var 5) (.lst false (.cons (.tup (.cons (.tup (.cons (.var 6) .nil)) (.cons (.var 7) .nil))) (.cons (.tup (.cons (.lst false (.cons (.var 6) .nil)) (.cons (.var 7) .nil))) (.cons (.tup (.cons (.dnew false) (.cons (.tup .nil) .nil))) (.cons (.tup (.cons (.dsp (.cons (.var 6) (.cons (.cint 0) .nil))) (.cons (.var 7) .nil))) .nil)))))) .nil)))) .skip)))))))⟩
def f__law_bent : Fn := ⟨3, 4, true, (.seq (.par [5, 6] (.cons (.call "_law_draw" 1 (.cons (.var 0) (.cons (.cint 10) .nil))) (.cons (.call "_law_draw" 1 (.cons (.var 0) (.cons (.bi .len false (.cons (.var 2) .nil)) .nil))) .nil))) (.seq (.asg (.nm 3) (.call "_law_bent_row" 14 (.cons (.var 0) (.cons (.var 1) (.cons (.var 2) (.cons (.ix (.var 2) (.var 6)) .nil)))))) (.seq (.asg (.nm 4) (.bin true .Mult (.lst false (.cons (.bin false .Add (.bin false .Add (.sl false (.var 2) .nil (.val (.var 6))) (.tup (.cons (.var 3) .nil))) (.sl false (.var 2) (.val (.bin false .Add (.var 6) (.cint 1))) .nil)) .nil)) (.cint 6))) (.seq (.ret (.ix (.bin false .Add (.var 4) (.lst false (.cons (.sl false (.var 2) .nil (.val (.neg (.cint 1)))) (.cons (.sl false (.var 2) (.val (.cint 1)) .nil) (.cons (.bi .list false (.cons (.var 2) .nil)) (.cons (.bin false .Add (.var 2) (.tup (.cons (.var 3) .nil))) .nil)))))) (.var 5))) .skip))))⟩
def f_law : Fn := ⟨1, 9, true, (.seq (.asg (.nm 1) (.call "_law_deck" 0 (.cons (.var 0) .nil))) (.seq (.for_ .range1 (.cons (.cint 5) .nil) (.nm 2) (.seq (.asg (.nm 5) (.call "_law_tags" 4 (.cons (.var 1) .nil))) (.seq (.asg (.nm 6) (.call "_law_rows" 5 (.cons (.var 1) (.cons (.var 5) .nil)))) (.seq (.asg (.nm 7) (.lst true (.cons (.var 6) (.cons (.call "_law_copies" 13 (.cons (.var 1) (.cons (.var 6) .nil))) (.cons (.tup (.cons (.tup (.cons (.cstr "void") (.cons (.tup .nil) .nil))) .nil)) (.cons (.tup .nil) (.cons .cnon (.cons (.cbl true) (.cons (.cint 0) (.cons (.cstr "") (.cons (.lst false .nil) (.cons (.dnew false) (.cons (.tup (.cons (.tup .nil) .nil)) (.cons (.ix (.var 6) (.cint 0)) (.cons (.tup (.cons (.var 6) .nil)) .nil))))))))))))))) (.seq (.asg (.nm 7) (.bin true .Add (.var 7) (.lc .range1 (.cons (.cint 12) .nil) (.nm 8) .nil (.call "_law_bent" 15 (.cons (.var 1) (.cons (.var 5) (.cons (.var 6) .nil)))) [8]))) (.seq (.ife (.or (.cmp .IsNot (.call "is_sheet" 10 (.cons (.var 5) (.cons (.var 6) .nil))) (.cbl true)) (.one (.cmp .NotEq (.lc .seq (.cons (.var 7) .nil) (.nm 9) (.cons (.not (.val (.call "_law_right" 12 (.cons (.var 5) (.cons (.var 9) .nil))))) .nil) (.var 9) [9]) (.lst false .nil)))) (.seq (.ret (.cbl false)) .skip) .skip) (.seq (.ife (.or (.not (.val (.call "_law_right" 12 (.cons (.tup .nil) (.cons (.var 6) .nil))))) (.or (.not (.val (.call "_law_right" 12 (.cons (.sl false (.var 5) (.val (.cint 1)) .nil) (.cons (.var 6) .nil))))) (.one (.not (.val (.call "_law_right" 12 (.cons (.call "_law_tags" 4 (.cons (.var 1) .nil)) (.cons (.var 6) .nil)))))))) (.seq (.ret (.cbl false)) .skip) .skip) .skip))))))) (.seq (.asg (.nm 3) (.bi .tuple true (.cons (.lc .range1 (.cons (.cint 200) .nil) (.nm 8) .nil (.tup (.cons (.cstr "a") (.cons (.tup (.cons (.var 8) (.cons (.bin false .Mod (.bin false .Add (.var 8) (.cint 1)) (.cint 200)) .nil))) .nil))) [8]) .nil))) (.seq (.asg (.nm 4) (.lst true (.cons (.tup (.cons (.tup (.cons (.lst false (.cons (.cstr "a") .nil)) (.cons (.tup (.cons (.cint 0) (.cons (.cint 0) .nil))) .nil))) .nil)) (.cons (.tup (.cons (.tup (.cons (.dnew false) (.cons (.tup .nil) .nil))) .nil)) (.cons (.tup (.cons (.tup (.cons (.lst false (.cons (.cstr "void") .nil)) (.cons (.tup .nil) .nil))) .nil)) .nil))))) (.seq (.ife (.cmp .NotEq (.lc .seq (.cons (.var 4) .nil) (.nm 9) (.cons (.not (.val (.call "_law_right" 12 (.cons (.tup (.cons (.tup (.cons (.cstr "a") (.cons (.cint 2) .nil))) .nil)) (.cons (.var 9) .nil))))) .nil) (.var 9) [9]) (.lst false .nil)) (.seq (.ret (.cbl false)) .skip) .skip) (.seq (.ret (.and (.call "_law_right" 12 (.cons (.tup (.cons (.tup (.cons (.cstr "a") (.cons (.cint 2) .nil))) .nil)) (.cons (.var 3) .nil))) (.and (.call "_law_right" 12 (.cons (.tup (.cons (.tup (.cons (.cstr "a") (.cons (.cint 1) .nil))) .nil)) (.cons (.var 3) .nil))) (.one (.call "_law_right" 12 (.cons (.tup .nil) (.cons (.tup (.cons (.tup (.cons (.cstr "void") (.cons (.tup .nil) .nil))) .nil)) .nil))))))) .skip))))))⟩
def tb : List Fn := [f__law_deck, f__law_draw, f__law_names, f__law_pick, f__law_tags, f__law_rows, f_field_counts, f_is_integer, f_is_index, f_is_row, f_is_sheet, f__law_is_sheet, f__law_right, f__law_copies, f__law_bent_row, f__law_bent, f_law]
def gs : List D := [.str "void"]
end K01
end
section
namespace K01
open PySem PySem.Spec PyProof.Rows L2 Mi
def top (i : Nat) : Stmt := PySem.Challenge.pw_roundties_k01_sheets_of_any_value.main.body.getD i (.Pass ⟨0, 0, 0, 0⟩)
def Γ : Gam := ⟨["_law_deck", "_law_draw", "_law_names", "_law_pick", "_law_tags", "_law_rows", "field_counts", "is_integer", "is_index", "is_row", "is_sheet", "_law_is_sheet", "_law_right", "_law_copies", "_law_bent_row", "_law_bent", "law"], [["script"], ["deck", "limit"], ["deck", "many"], ["deck", "items"], ["deck"], ["deck", "tags"], ["signature"], ["thing"], ["thing", "count"], ["counts", "length", "thing"], ["signature", "thing"], ["counts", "it"], ["tags", "it"], ["deck", "rows"], ["deck", "tags", "rows", "row"], ["deck", "tags", "rows"], ["script"]], ["VOID_TAG"], ["list", "sorted", "range", "len", "tuple", "dict", "isinstance", "int", "bool", "all", "str", "repr"], [(10, 0, ["thing", "signature"], [1, 0])]⟩
theorem c__law_deck : ckF none Γ ["script", "cell", "cells", "total"] ["script"] f__law_deck (top 9) = true := by decide +kernel
theorem c__law_draw : ckF none Γ ["deck", "limit", "cell", "number"] ["deck", "limit"] f__law_draw (top 10) = true := by decide +kernel
theorem c__law_names : ckF none Γ ["deck", "many", "words", "found", "k", "letters", "way", "first", "letter"] ["deck", "many"] f__law_names (top 12) = true := by decide +kernel
theorem c__law_pick : ckF none Γ ["deck", "items"] ["deck", "items"] f__law_pick (top 11) = true := by decide +kernel
theorem c__law_tags : ckF none Γ ["deck", "names", "name"] ["deck"] f__law_tags (top 13) = true := by decide +kernel
theorem c__law_rows : ckF none Γ ["deck", "tags", "wide", "count", "k", "some", "way", "found", "pair", "name", "many", "j"] ["deck", "tags"] f__law_rows (top 14) = true := by decide +kernel
theorem c_field_counts : ckF none Γ ["signature"] ["signature"] f_field_counts (top 4) = true := by decide +kernel
theorem c_is_integer : ckF none Γ ["thing"] ["thing"] f_is_integer (top 2) = true := by decide +kernel
theorem c_is_index : ckF none Γ ["thing", "count"] ["thing", "count"] f_is_index (top 3) = true := by decide +kernel
theorem c_is_row : ckF (some 0) Γ ["counts", "length", "thing", "tag", "fields", "field"] ["counts", "length", "thing"] f_is_row (top 6) = true := by decide +kernel
theorem c_is_sheet : ckF (some 1) Γ ["signature", "thing", "counts", "row"] ["signature", "thing"] f_is_sheet (top 7) = true := by decide +kernel
theorem c__law_is_sheet : ckF none Γ ["counts", "it", "row", "field"] ["counts", "it"] f__law_is_sheet (top 16) = true := by decide +kernel
theorem c__law_right : ckF none Γ ["tags", "it", "told", "kept", "due", "one"] ["tags", "it"] f__law_right (top 19) = true := by decide +kernel
theorem c__law_copies : ckF none Γ ["deck", "rows", "k", "found", "spots", "left", "fields", "field", "spot"] ["deck", "rows"] f__law_copies (top 15) = true := by decide +kernel
theorem c__law_bent_row : ckF none Γ ["deck", "tags", "rows", "row", "odd", "some", "name", "fields", "at", "count"] ["deck", "tags", "rows", "row"] f__law_bent_row (top 17) = true := by decide +kernel
theorem c__law_bent : ckF none Γ ["deck", "tags", "rows", "bent", "some", "way", "at"] ["deck", "tags", "rows"] f__law_bent (top 18) = true := by decide +kernel
theorem c_law : ckF none Γ ["script", "deck", "turn", "long", "odd", "tags", "rows", "some", "k", "it"] ["script"] f_law (top 20) = true := by decide +kernel
def dD (x : Str) (i : Nat) : He.DefD := ⟨(x, none), x, x, defArgs (top i), defBody (top i), defScope (top i), [], []⟩
def fn : List He.DefD := [dD "_law_deck" 9, dD "_law_draw" 10, dD "_law_names" 12, dD "_law_pick" 11, dD "_law_tags" 13, dD "_law_rows" 14, dD "field_counts" 4, dD "is_integer" 2, dD "is_index" 3, dD "is_row" 6, dD "is_sheet" 7, dD "_law_is_sheet" 16, dD "_law_right" 19, dD "_law_copies" 15, dD "_law_bent_row" 17, dD "_law_bent" 18, dD "law" 20]
def fa : List He.Fa := [.glo "_law_deck", .glo "_law_draw", .glo "_law_names", .glo "_law_pick", .glo "_law_tags", .glo "_law_rows", .glo "field_counts", .glo "is_integer", .glo "is_index", .glo "is_row", .glo "is_sheet", .glo "_law_is_sheet", .glo "_law_right", .glo "_law_copies", .glo "_law_bent_row", .glo "_law_bent", .glo "law", .free "list", .free "sorted", .free "range", .free "len", .free "tuple", .free "dict", .free "isinstance", .free "int", .free "bool", .free "all", .free "str", .free "repr", .str "VOID_TAG" "void"]
def tf : List He.Defn := [("is_row", none), ("is_sheet", none)]
def apart (K : PySem.W.Frag) : Bool := decide ((tf.map (He.cT K)).map (·.2)).Nodup
abbrev R : PySem.W.OpenRow := PySem.W.OpenLaw.row PySem.Challenge.rw_roundties_k01_sheets_of_any_value
abbrev hk : PySem.W.Hook := He.hookX 4 fa fn [] tf apart
def ob (s : PySem.W.SharedT) : He.AlX := He.obsX 4 fa fn [] tf apart (HandSHeadRun.getT s)
theorem ob_eq (s : PySem.W.SharedT) : ob s = hk.obs s.abs := He.obsX_eq (HandSHeadRun.getT_eq s)
def nm0 : List PySem.Str := ["VOID_TAG", "is_integer", "is_index", "field_counts", "is_row", "is_sheet", "_law_deck", "_law_draw", "_law_pick", "_law_names", "_law_tags", "_law_rows", "_law_copies", "_law_is_sheet", "_law_bent_row", "_law_bent", "_law_right"]
def nms : List PySem.Str := nm0
theorem run (w : World) : HandSHeadRun.RunEq R (PySem.W.view R.prog [20]) hk ob 3000 nms w := by
  intro os
  kernel_rfl
section
variable {K : PySem.W.Frag} {h : Heap} {mg : Str → Option Value}
theorem kw_of {x qual : Str} {params : Arguments} {body : List Stmt} {scope : Scope} {kws : List (Str × V)} {f : Addr} {fd : FuncData} {np : Nat} {ks ps : List Str} {perm : List Nat} (F : FunD K x qual params body scope [] kws f fd)
    (hb : ∀ (kV doc pm : Value) (an : Option Addr) (cdv ct : Value) (us ws zs : List Value), us.length = np → ws.length = ks.length → pick (us ++ ws) perm = some zs → bindArgs (PySem.W.fnOf x qual params body scope .none kV doc pm an cdv ct) ⟨us, ks.zip ws⟩ = pure (ps.zip zs)) :
    ∀ (s : Shared) (us ws zs : List Value), K.In s.heap → us.length = np → ws.length = ks.length → pick (us ++ ws) perm = some zs → BindsTo s fd ⟨us, ks.zip ws⟩ (ps.zip zs) := by
  intro s us ws zs _ h1 h2 h3
  obtain ⟨oc, od, dV, kV, doc, pm, an, cdv, ct, osl, rfl, lk, hcd, hD, hK⟩ := F.ex
  rcases hD with ⟨_, rfl⟩ | ⟨e, _⟩
  · exact .of_eq (hb kV doc pm an cdv ct us ws zs h1 h2 h3)
  · exact absurd rfl e
theorem d_0 (X : K.In h) (G : h.Ns mainGlobals mg) (c : He.SaysD fa fn K) : DefOk (tf.map (He.cT K)) K mg Γ tb 0 "_law_deck" := by
  obtain ⟨fd, F⟩ := c.def_ 0 (d := dD "_law_deck" 9) rfl
  refine ⟨⟨none, _, fd, ["script"], "_law_deck", top 9, ["script", "cell", "cells", "total"], f__law_deck, [], [], rfl, rfl, He.glo_ok X G (c.fact 0 (f := .glo "_law_deck") rfl), F.kp, FunD.bindsN F (fun _ _ _ _ _ _ us hl => match us, hl with | [_], _ => rfl), F, ⟨c__law_deck, fun ti e => by cases e⟩, ?_⟩⟩
  intro np ks perm hm
  cases hm with
  | tail _ hm =>
    cases hm
theorem d_1 (X : K.In h) (G : h.Ns mainGlobals mg) (c : He.SaysD fa fn K) : DefOk (tf.map (He.cT K)) K mg Γ tb 1 "_law_draw" := by
  obtain ⟨fd, F⟩ := c.def_ 1 (d := dD "_law_draw" 10) rfl
  refine ⟨⟨none, _, fd, ["deck", "limit"], "_law_draw", top 10, ["deck", "limit", "cell", "number"], f__law_draw, [], [], rfl, rfl, He.glo_ok X G (c.fact 1 (f := .glo "_law_draw") rfl), F.kp, FunD.bindsN F (fun _ _ _ _ _ _ us hl => match us, hl with | [_, _], _ => rfl), F, ⟨c__law_draw, fun ti e => by cases e⟩, ?_⟩⟩
  intro np ks perm hm
  cases hm with
  | tail _ hm =>
    cases hm
theorem d_2 (X : K.In h) (G : h.Ns mainGlobals mg) (c : He.SaysD fa fn K) : DefOk (tf.map (He.cT K)) K mg Γ tb 2 "_law_names" := by
  obtain ⟨fd, F⟩ := c.def_ 2 (d := dD "_law_names" 12) rfl
  refine ⟨⟨none, _, fd, ["deck", "many"], "_law_names", top 12, ["deck", "many", "words", "found", "k", "letters", "way", "first", "letter"], f__law_names, [], [], rfl, rfl, He.glo_ok X G (c.fact 2 (f := .glo "_law_names") rfl), F.kp, FunD.bindsN F (fun _ _ _ _ _ _ us hl => match us, hl with | [_, _], _ => rfl), F, ⟨c__law_names, fun ti e => by cases e⟩, ?_⟩⟩
  intro np ks perm hm
  cases hm with
  | tail _ hm =>
    cases hm
theorem d_3 (X : K.In h) (G : h.Ns mainGlobals mg) (c : He.SaysD fa fn K) : DefOk (tf.map (He.cT K)) K mg Γ tb 3 "_law_pick" := by
  obtain ⟨fd, F⟩ := c.def_ 3 (d := dD "_law_pick" 11) rfl
  refine ⟨⟨none, _, fd, ["deck", "items"], "_law_pick", top 11, ["deck", "items"], f__law_pick, [], [], rfl, rfl, He.glo_ok X G (c.fact 3 (f := .glo "_law_pick") rfl), F.kp, FunD.bindsN F (fun _ _ _ _ _ _ us hl => match us, hl with | [_, _], _ => rfl), F, ⟨c__law_pick, fun ti e => by cases e⟩, ?_⟩⟩
  intro np ks perm hm
  cases hm with
  | tail _ hm =>
    cases hm
theorem d_4 (X : K.In h) (G : h.Ns mainGlobals mg) (c : He.SaysD fa fn K) : DefOk (tf.map (He.cT K)) K mg Γ tb 4 "_law_tags" := by
  obtain ⟨fd, F⟩ := c.def_ 4 (d := dD "_law_tags" 13) rfl
  refine ⟨⟨none, _, fd, ["deck"], "_law_tags", top 13, ["deck", "names", "name"], f__law_tags, [], [], rfl, rfl, He.glo_ok X G (c.fact 4 (f := .glo "_law_tags") rfl), F.kp, FunD.bindsN F (fun _ _ _ _ _ _ us hl => match us, hl with | [_], _ => rfl), F, ⟨c__law_tags, fun ti e => by cases e⟩, ?_⟩⟩
  intro np ks perm hm
  cases hm with
  | tail _ hm =>
    cases hm
theorem d_5 (X : K.In h) (G : h.Ns mainGlobals mg) (c : He.SaysD fa fn K) : DefOk (tf.map (He.cT K)) K mg Γ tb 5 "_law_rows" := by
  obtain ⟨fd, F⟩ := c.def_ 5 (d := dD "_law_rows" 14) rfl
  refine ⟨⟨none, _, fd, ["deck", "tags"], "_law_rows", top 14, ["deck", "tags", "wide", "count", "k", "some", "way", "found", "pair", "name", "many", "j"], f__law_rows, [], [], rfl, rfl, He.glo_ok X G (c.fact 5 (f := .glo "_law_rows") rfl), F.kp, FunD.bindsN F (fun _ _ _ _ _ _ us hl => match us, hl with | [_, _], _ => rfl), F, ⟨c__law_rows, fun ti e => by cases e⟩, ?_⟩⟩
  intro np ks perm hm
  cases hm with
  | tail _ hm =>
    cases hm
theorem d_6 (X : K.In h) (G : h.Ns mainGlobals mg) (c : He.SaysD fa fn K) : DefOk (tf.map (He.cT K)) K mg Γ tb 6 "field_counts" := by
  obtain ⟨fd, F⟩ := c.def_ 6 (d := dD "field_counts" 4) rfl
  refine ⟨⟨none, _, fd, ["signature"], "field_counts", top 4, ["signature"], f_field_counts, [], [], rfl, rfl, He.glo_ok X G (c.fact 6 (f := .glo "field_counts") rfl), F.kp, FunD.bindsN F (fun _ _ _ _ _ _ us hl => match us, hl with | [_], _ => rfl), F, ⟨c_field_counts, fun ti e => by cases e⟩, ?_⟩⟩
  intro np ks perm hm
  cases hm with
  | tail _ hm =>
    cases hm
theorem d_7 (X : K.In h) (G : h.Ns mainGlobals mg) (c : He.SaysD fa fn K) : DefOk (tf.map (He.cT K)) K mg Γ tb 7 "is_integer" := by
  obtain ⟨fd, F⟩ := c.def_ 7 (d := dD "is_integer" 2) rfl
  refine ⟨⟨none, _, fd, ["thing"], "is_integer", top 2, ["thing"], f_is_integer, [], [], rfl, rfl, He.glo_ok X G (c.fact 7 (f := .glo "is_integer") rfl), F.kp, FunD.bindsN F (fun _ _ _ _ _ _ us hl => match us, hl with | [_], _ => rfl), F, ⟨c_is_integer, fun ti e => by cases e⟩, ?_⟩⟩
  intro np ks perm hm
  cases hm with
  | tail _ hm =>
    cases hm
theorem d_8 (X : K.In h) (G : h.Ns mainGlobals mg) (c : He.SaysD fa fn K) : DefOk (tf.map (He.cT K)) K mg Γ tb 8 "is_index" := by
  obtain ⟨fd, F⟩ := c.def_ 8 (d := dD "is_index" 3) rfl
  refine ⟨⟨none, _, fd, ["thing", "count"], "is_index", top 3, ["thing", "count"], f_is_index, [], [], rfl, rfl, He.glo_ok X G (c.fact 8 (f := .glo "is_index") rfl), F.kp, FunD.bindsN F (fun _ _ _ _ _ _ us hl => match us, hl with | [_, _], _ => rfl), F, ⟨c_is_index, fun ti e => by cases e⟩, ?_⟩⟩
  intro np ks perm hm
  cases hm with
  | tail _ hm =>
    cases hm
theorem d_9 (X : K.In h) (G : h.Ns mainGlobals mg) (c : He.SaysD fa fn K) : DefOk (tf.map (He.cT K)) K mg Γ tb 9 "is_row" := by
  obtain ⟨fd, F⟩ := c.def_ 9 (d := dD "is_row" 6) rfl
  refine ⟨⟨some 0, _, fd, ["counts", "length", "thing"], "is_row", top 6, ["counts", "length", "thing", "tag", "fields", "field"], f_is_row, [], [], rfl, rfl, He.glo_ok X G (c.fact 9 (f := .glo "is_row") rfl), F.kp, FunD.bindsN F (fun _ _ _ _ _ _ us hl => match us, hl with | [_, _, _], _ => rfl), F, ⟨c_is_row, fun ti e => by cases e; exact ⟨_, rfl, code_for F⟩⟩, ?_⟩⟩
  intro np ks perm hm
  cases hm with
  | tail _ hm =>
    cases hm
theorem d_10 (X : K.In h) (G : h.Ns mainGlobals mg) (c : He.SaysD fa fn K) : DefOk (tf.map (He.cT K)) K mg Γ tb 10 "is_sheet" := by
  obtain ⟨fd, F⟩ := c.def_ 10 (d := dD "is_sheet" 7) rfl
  refine ⟨⟨some 1, _, fd, ["signature", "thing"], "is_sheet", top 7, ["signature", "thing", "counts", "row"], f_is_sheet, [], [], rfl, rfl, He.glo_ok X G (c.fact 10 (f := .glo "is_sheet") rfl), F.kp, FunD.bindsN F (fun _ _ _ _ _ _ us hl => match us, hl with | [_, _], _ => rfl), F, ⟨c_is_sheet, fun ti e => by cases e; exact ⟨_, rfl, code_for F⟩⟩, ?_⟩⟩
  intro np ks perm hm
  cases hm with
  | head => exact kw_of F (fun _ _ _ _ _ _ us ws zs h1 h2 h3 => match us, ws, h1, h2, h3 with | [], [_, _], _, _, h3 => by cases h3; rfl)
  | tail _ hm =>
    cases hm
theorem d_11 (X : K.In h) (G : h.Ns mainGlobals mg) (c : He.SaysD fa fn K) : DefOk (tf.map (He.cT K)) K mg Γ tb 11 "_law_is_sheet" := by
  obtain ⟨fd, F⟩ := c.def_ 11 (d := dD "_law_is_sheet" 16) rfl
  refine ⟨⟨none, _, fd, ["counts", "it"], "_law_is_sheet", top 16, ["counts", "it", "row", "field"], f__law_is_sheet, [], [], rfl, rfl, He.glo_ok X G (c.fact 11 (f := .glo "_law_is_sheet") rfl), F.kp, FunD.bindsN F (fun _ _ _ _ _ _ us hl => match us, hl with | [_, _], _ => rfl), F, ⟨c__law_is_sheet, fun ti e => by cases e⟩, ?_⟩⟩
  intro np ks perm hm
  cases hm with
  | tail _ hm =>
    cases hm
theorem d_12 (X : K.In h) (G : h.Ns mainGlobals mg) (c : He.SaysD fa fn K) : DefOk (tf.map (He.cT K)) K mg Γ tb 12 "_law_right" := by
  obtain ⟨fd, F⟩ := c.def_ 12 (d := dD "_law_right" 19) rfl
  refine ⟨⟨none, _, fd, ["tags", "it"], "_law_right", top 19, ["tags", "it", "told", "kept", "due", "one"], f__law_right, [], [], rfl, rfl, He.glo_ok X G (c.fact 12 (f := .glo "_law_right") rfl), F.kp, FunD.bindsN F (fun _ _ _ _ _ _ us hl => match us, hl with | [_, _], _ => rfl), F, ⟨c__law_right, fun ti e => by cases e⟩, ?_⟩⟩
  intro np ks perm hm
  cases hm with
  | tail _ hm =>
    cases hm
theorem d_13 (X : K.In h) (G : h.Ns mainGlobals mg) (c : He.SaysD fa fn K) : DefOk (tf.map (He.cT K)) K mg Γ tb 13 "_law_copies" := by
  obtain ⟨fd, F⟩ := c.def_ 13 (d := dD "_law_copies" 15) rfl
  refine ⟨⟨none, _, fd, ["deck", "rows"], "_law_copies", top 15, ["deck", "rows", "k", "found", "spots", "left", "fields", "field", "spot"], f__law_copies, [], [], rfl, rfl, He.glo_ok X G (c.fact 13 (f := .glo "_law_copies") rfl), F.kp, FunD.bindsN F (fun _ _ _ _ _ _ us hl => match us, hl with | [_, _], _ => rfl), F, ⟨c__law_copies, fun ti e => by cases e⟩, ?_⟩⟩
  intro np ks perm hm
  cases hm with
  | tail _ hm =>
    cases hm
theorem d_14 (X : K.In h) (G : h.Ns mainGlobals mg) (c : He.SaysD fa fn K) : DefOk (tf.map (He.cT K)) K mg Γ tb 14 "_law_bent_row" := by
  obtain ⟨fd, F⟩ := c.def_ 14 (d := dD "_law_bent_row" 17) rfl
  refine ⟨⟨none, _, fd, ["deck", "tags", "rows", "row"], "_law_bent_row", top 17, ["deck", "tags", "rows", "row", "odd", "some", "name", "fields", "at", "count"], f__law_bent_row, [], [], rfl, rfl, He.glo_ok X G (c.fact 14 (f := .glo "_law_bent_row") rfl), F.kp, FunD.bindsN F (fun _ _ _ _ _ _ us hl => match us, hl with | [_, _, _, _], _ => rfl), F, ⟨c__law_bent_row, fun ti e => by cases e⟩, ?_⟩⟩
  intro np ks perm hm
  cases hm with
  | tail _ hm =>
    cases hm
theorem d_15 (X : K.In h) (G : h.Ns mainGlobals mg) (c : He.SaysD fa fn K) : DefOk (tf.map (He.cT K)) K mg Γ tb 15 "_law_bent" := by
  obtain ⟨fd, F⟩ := c.def_ 15 (d := dD "_law_bent" 18) rfl
  refine ⟨⟨none, _, fd, ["deck", "tags", "rows"], "_law_bent", top 18, ["deck", "tags", "rows", "bent", "some", "way", "at"], f__law_bent, [], [], rfl, rfl, He.glo_ok X G (c.fact 15 (f := .glo "_law_bent") rfl), F.kp, FunD.bindsN F (fun _ _ _ _ _ _ us hl => match us, hl with | [_, _, _], _ => rfl), F, ⟨c__law_bent, fun ti e => by cases e⟩, ?_⟩⟩
  intro np ks perm hm
  cases hm with
  | tail _ hm =>
    cases hm
theorem d_16 (X : K.In h) (G : h.Ns mainGlobals mg) (c : He.SaysD fa fn K) : DefOk (tf.map (He.cT K)) K mg Γ tb 16 "law" := by
  obtain ⟨fd, F⟩ := c.def_ 16 (d := dD "law" 20) rfl
  refine ⟨⟨none, _, fd, ["script"], "law", top 20, ["script", "deck", "turn", "long", "odd", "tags", "rows", "some", "k", "it"], f_law, [], [], rfl, rfl, He.glo_ok X G (c.fact 16 (f := .glo "law") rfl), F.kp, FunD.bindsN F (fun _ _ _ _ _ _ us hl => match us, hl with | [_], _ => rfl), F, ⟨c_law, fun ti e => by cases e⟩, ?_⟩⟩
  intro np ks perm hm
  cases hm with
  | tail _ hm =>
    cases hm
theorem defs (X : K.In h) (G : h.Ns mainGlobals mg) (c : He.SaysD fa fn K) : ∀ (j : Nat) (x : Str), Γ.fns[j]? = some x → DefOk (tf.map (He.cT K)) K mg Γ tb j x
  | 0, _, e => by cases e; exact d_0 X G c
  | 1, _, e => by cases e; exact d_1 X G c
  | 2, _, e => by cases e; exact d_2 X G c
  | 3, _, e => by cases e; exact d_3 X G c
  | 4, _, e => by cases e; exact d_4 X G c
  | 5, _, e => by cases e; exact d_5 X G c
  | 6, _, e => by cases e; exact d_6 X G c
  | 7, _, e => by cases e; exact d_7 X G c
  | 8, _, e => by cases e; exact d_8 X G c
  | 9, _, e => by cases e; exact d_9 X G c
  | 10, _, e => by cases e; exact d_10 X G c
  | 11, _, e => by cases e; exact d_11 X G c
  | 12, _, e => by cases e; exact d_12 X G c
  | 13, _, e => by cases e; exact d_13 X G c
  | 14, _, e => by cases e; exact d_14 X G c
  | 15, _, e => by cases e; exact d_15 X G c
  | 16, _, e => by cases e; exact d_16 X G c
  | n + 17, _, e => by cases e
theorem glb (X : K.In h) (G : h.Ns mainGlobals mg) (c : He.SaysD fa fn K) : ∀ (j : Nat) (x : Str) (d : D), Γ.gls[j]? = some x → gs[j]? = some d → ∃ (u : Value) (v : V), mg x = some u ∧ RelV v u ∧ ∀ (m : Nat → Addr) (n : Nat) (H : Hp), RD K m n H d v
  | 0, _, _, e, e2 => by
    cases e
    cases e2
    obtain ⟨t, ht⟩ := He.str_ok X G (c.fact 29 (f := .str "VOID_TAG" "void") rfl)
    exact ⟨_, .str "void", ht, ⟨t, rfl⟩, fun _ _ _ => by unfold RD; rfl⟩
  | n + 1, _, _, e, _ => by cases e
theorem bts (X : K.In h) (G : h.Ns mainGlobals mg) (c : He.SaysD fa fn K) : ∀ x : Str, x ∈ Γ.bts → mg x = none := by
  intro x hx
  cases hx with
  | head => exact He.free_ok X G (c.fact 17 (f := .free "list") rfl)
  | tail _ hx =>
    cases hx with
    | head => exact He.free_ok X G (c.fact 18 (f := .free "sorted") rfl)
    | tail _ hx =>
      cases hx with
      | head => exact He.free_ok X G (c.fact 19 (f := .free "range") rfl)
      | tail _ hx =>
        cases hx with
        | head => exact He.free_ok X G (c.fact 20 (f := .free "len") rfl)
        | tail _ hx =>
          cases hx with
          | head => exact He.free_ok X G (c.fact 21 (f := .free "tuple") rfl)
          | tail _ hx =>
            cases hx with
            | head => exact He.free_ok X G (c.fact 22 (f := .free "dict") rfl)
            | tail _ hx =>
              cases hx with
              | head => exact He.free_ok X G (c.fact 23 (f := .free "isinstance") rfl)
              | tail _ hx =>
                cases hx with
                | head => exact He.free_ok X G (c.fact 24 (f := .free "int") rfl)
                | tail _ hx =>
                  cases hx with
                  | head => exact He.free_ok X G (c.fact 25 (f := .free "bool") rfl)
                  | tail _ hx =>
                    cases hx with
                    | head => exact He.free_ok X G (c.fact 26 (f := .free "all") rfl)
                    | tail _ hx =>
                      cases hx with
                      | head => exact He.free_ok X G (c.fact 27 (f := .free "str") rfl)
                      | tail _ hx =>
                        cases hx with
                        | head => exact He.free_ok X G (c.fact 28 (f := .free "repr") rfl)
                        | tail _ hx =>
                          cases hx
end
/-- what is to be shown in plain Lean -/
def Plain : Prop := ∀ ns : List Int, ns.length ≤ 63 → ∃ st, Mi.run tb gs 10000 21 16 [.scr ns] 0 (List.replicate 2 O.tab) = .ok (.bl true) st
theorem facts {P : Program} {w : World} {K : PySem.W.Frag} {h : Heap} {mg : Str → Option Value} {f : Addr} (X : K.In h) (G : h.Ns mainGlobals mg) (hfa : mg ("law" : Str) = some (.ref f)) (c : He.SaysD fa fn K) :
    ∃ fd : FuncData, (∀ (s : Shared) (v : Value), BindsTo s fd ⟨[v], []⟩ [("script", v)]) ∧ ∀ base : Heap, K.In base → base.Ns mainGlobals mg → (∀ p ∈ tf.map (He.cT K), GxR.TabB base mg p.1 p.2) → FnG P w K mg base 21 f fd ["script"] (spR K ((tf.map (He.cT K)).map (·.2)) (Mi.run tb gs 10000 21) 16) := by
  obtain ⟨fd, F⟩ := c.def_ 16 (d := dD "law" 20) rfl
  have e := hfa.symm.trans (He.glo_ok X G (c.fact 16 (f := .glo "law") rfl))
  cases e
  have b := FunD.bindsA (ps := ["script"]) F fun _ _ _ _ _ _ us hl => match us, hl with | [_], _ => rfl
  refine ⟨fd, fun s v => b s [v] rfl, fun base _ _ hT => ?_⟩
  exact fn_ok F (gf_all (fu := 10000) hT (defs X G c) (glb X G c) (bts X G c) 20) (tj := none) (fun ti e => by cases e) c_law fun ds b st => rfl
end K01
open PySem PySem.W PySem.Calls PyProof.Rows
theorem K01.holds_of (hP : K01.Plain) : PySem.Challenge.rw_roundties_k01_sheets_of_any_value.Holds := by
  w_on; o_law
  refine HandSHeadRun.head_any (r := OpenLaw.row PySem.Challenge.rw_roundties_k01_sheets_of_any_value) (q := view (OpenLaw.row PySem.Challenge.rw_roundties_k01_sheets_of_any_value).prog [20]) (H := K01.hk) (ob := K01.ob) (M := 3000) (loose := K01.nms) (d := HandSHeadRun.topDef (OpenLaw.row PySem.Challenge.rw_roundties_k01_sheets_of_any_value).prog 20) (kwd := []) K01.ob_eq
    (by kernel_rfl) (fun s => by kernel_rfl) K01.run (by kernel_rfl) (by kernel_rfl) (by kernel_rfl) (by rfl) (by first | assumption | decide +kernel) (by decide +kernel) ⟨rfl, rfl, rfl, rfl, rfl, by decide +kernel⟩ ?hw ?hc
  case hw => w_witness2
  case hc =>
    refine Att.attach_call (l := PySem.Challenge.rw_roundties_k01_sheets_of_any_value) (n := 63) rfl (by kernel_rfl) fun w s₀ s₁ mg mb fa o pm cd doc a vs ns G Y ho hd hcd hmg0 hobj hints hlen hg => ?_
    obtain ⟨K, KX, c⟩ := Y
    have hmg : mg ("law" : PySem.Str) = some (.ref fa) := by
      have e : (HandSHeadRun.topDef (OpenLaw.row PySem.Challenge.rw_roundties_k01_sheets_of_any_value).prog 20).name = ("law" : PySem.Str) := by kernel_rfl
      rw [← e]
      exact hmg0
    obtain ⟨fd, hb, hF⟩ := K01.facts (P := (PySem.Challenge.rw_roundties_k01_sheets_of_any_value).prog) (w := w) KX G.T.g hmg c.t.d
    exact Mi.law_end KX G.T.g G.T.b G.T.builtins G.T.nolimit hg hobj hints (Nat.le_trans hlen (by decide)) ⟨rfl, by decide, by decide⟩ rfl
      (Mi.forall_map fun p hp => c.empty p hp) (Mi.forall_map fun p hp => c.out p hp) (Mi.forall_map fun p hp => PySem.W.codeHd_of_K KX (c.hd p hp)) (of_decide_eq_true c.more) G.T.bmain hF hb (hP ns hlen)
end
section
open PySem L2 Mi
namespace K01
def inB (d : D) : Bool := match d with
  | .int _ => true
  | _ => false
/-- 0 ≤ d < n, no bool -/
def ixB (n : Int) (d : D) : Bool := match d with
  | .int i => decide (0 ≤ i) && decide (i < n)
  | _ => false
theorem int_run {k : Nat} {d : D} {b : Nat} {st : Store} (h : gd d = true) : Mi.run tb gs 10000 (k+1) 7 [d] b st = Res.ok (.bl (inB d)) st := by
  have key : (Mi.run tb gs 10000 (k+1) 7 [d] b st).S fun v s => v = .bl (inB d) ∧ s = st := by
    refine S_run (fn := f_is_integer) rfl rfl ?_
    simp only [f_is_integer]
    cases d with
    | loc i => unfold gd at h; cases h
    | ref i => unfold gd at h; cases h
    | ty i => unfold gd at h; cases h
    | scr i => unfold gd at h; cases h
    | _ => simp [ev_var, ev_cint, ev_cstr, ev_cbl, ev_cnon, ev_gl, ev_bty, ev_val, ev_tup, ev_lst, ev_dnew, ev_bin, ev_neg, ev_cmp, ev_cmp2, ev_and, ev_or, ev_one, ev_not, ev_ite, ev_ix, ev_sl, ev_rev, ev_call, ev_callk, ev_bi, ev_me, evA_nil, evA_cons, evT_and, evT_or, evT_one, evT_not, evT_ite, evT_nil, evT_cmp, evT_cmp2, evT_cons, evT_val, evP_nil, evP_val, ex_skip, ex_seq, ex_asg, ex_par, ex_six, ex_aug, ex_ex, ex_ret, ex_retN, ex_ife, ex_brk, ex_cont, S_bind, S_ok, some_some, asB_bl, asI_int, getS_z, getS_s, der_non, der_bl, der_int, pder_str, der_tup, der_lst, pder_dct, der_ty, cmp_lt_i, cmp_le_i, cmp_gt_i, cmp_ge_i, cmp_eq_i, cmp_ne_i, cmp_lt_s, cmp_le_s, cmp_eq_s, cmp_ne_s, cmp_eq_l0, cmp_ne_l0, fin_val, fin_dct, len_tup, len_lst, biD, isiD, endF, clo, inB]
  obtain ⟨a, s, e, rfl, rfl⟩ := S_get key
  exact e
theorem ix_run {k : Nat} {d : D} {n : Int} {b : Nat} {st : Store} (h : gd d = true) : Mi.run tb gs 10000 (k+2) 8 [d, .int n] b st = Res.ok (.bl (ixB n d)) st := by
  have key : (Mi.run tb gs 10000 (k+2) 8 [d, .int n] b st).S fun v s => v = .bl (ixB n d) ∧ s = st := by
    refine S_run (fn := f_is_index) rfl rfl ?_
    simp only [f_is_index]
    simp [ev_var, ev_cint, ev_cstr, ev_cbl, ev_cnon, ev_gl, ev_bty, ev_val, ev_tup, ev_lst, ev_dnew, ev_bin, ev_neg, ev_cmp, ev_cmp2, ev_and, ev_or, ev_one, ev_not, ev_ite, ev_ix, ev_sl, ev_rev, ev_call, ev_callk, ev_bi, ev_me, evA_nil, evA_cons, evT_and, evT_or, evT_one, evT_not, evT_ite, evT_nil, evT_cmp, evT_cmp2, evT_cons, evT_val, evP_nil, evP_val, ex_skip, ex_seq, ex_asg, ex_par, ex_six, ex_aug, ex_ex, ex_ret, ex_retN, ex_ife, ex_brk, ex_cont, S_bind, S_ok, some_some, asB_bl, asI_int, getS_z, getS_s, der_non, der_bl, der_int, pder_str, der_tup, der_lst, pder_dct, der_ty, cmp_lt_i, cmp_le_i, cmp_gt_i, cmp_ge_i, cmp_eq_i, cmp_ne_i, cmp_lt_s, cmp_le_s, cmp_eq_s, cmp_ne_s, cmp_eq_l0, cmp_ne_l0, fin_val, fin_dct, len_tup, len_lst, int_run h]
    cases d with
    | int i =>
      simp only [inB]
      by_cases h1 : 0 ≤ i <;> by_cases h2 : i < n <;> simp [ev_var, ev_cint, ev_cstr, ev_cbl, ev_cnon, ev_gl, ev_bty, ev_val, ev_tup, ev_lst, ev_dnew, ev_bin, ev_neg, ev_cmp, ev_cmp2, ev_and, ev_or, ev_one, ev_not, ev_ite, ev_ix, ev_sl, ev_rev, ev_call, ev_callk, ev_bi, ev_me, evA_nil, evA_cons, evT_and, evT_or, evT_one, evT_not, evT_ite, evT_nil, evT_cmp, evT_cmp2, evT_cons, evT_val, evP_nil, evP_val, ex_skip, ex_seq, ex_asg, ex_par, ex_six, ex_aug, ex_ex, ex_ret, ex_retN, ex_ife, ex_brk, ex_cont, S_bind, S_ok, some_some, asB_bl, asI_int, getS_z, getS_s, der_non, der_bl, der_int, pder_str, der_tup, der_lst, pder_dct, der_ty, cmp_lt_i, cmp_le_i, cmp_gt_i, cmp_ge_i, cmp_eq_i, cmp_ne_i, cmp_lt_s, cmp_le_s, cmp_eq_s, cmp_ne_s, cmp_eq_l0, cmp_ne_l0, fin_val, fin_dct, len_tup, len_lst, cmpS, cmpD, der, h1, h2, endF, clo, ixB]
    | _ => simp [inB, S_ok, endF, clo, ixB]
  obtain ⟨a, s, e, rfl, rfl⟩ := S_get key
  exact e
/-- a row of a sheet of n rows, by these counts -/
def rowB (ks vs : List D) (n : Int) (d : D) : Bool := match d with
  | .tup [.str x, .tup fs] => (match getK (.str x) ks vs with
    | some (.int c) => decide ((fs.length : Int) = c) && fs.all (ixB n)
    | _ => false)
  | _ => false
def shB (ks vs : List D) (d : D) : Bool := match d with
  | .tup xs => !xs.isEmpty && xs.all (rowB ks vs xs.length)
  | _ => false
/-- a table of counts -/
structure Cnt (ks vs : List D) : Prop where
  len : ks.length = vs.length
  str : ∀ a ∈ ks, ∃ x : Str, a = .str x
  int : ∀ v ∈ vs, ∃ c : Int, v = .int c
theorem Cnt.gd {ks vs : List D} (h : Cnt ks vs) : gdL vs = true := gdL_of fun v hv => by
  obtain ⟨c, rfl⟩ := h.int v hv
  unfold Mi.gd
  rfl
theorem Cnt.dp {ks vs : List D} (h : Cnt ks vs) : dpL vs = 0 := dpL_leaf fun v hv => by
  obtain ⟨c, rfl⟩ := h.int v hv
  unfold dpD
  rfl
theorem pair_cases (xs : List D) : (∃ t c, xs = [t, c]) ∨ ((xs.length : Int) ≠ 2) := by
  rcases xs with _ | ⟨t, _ | ⟨c, _ | ⟨e, r⟩⟩⟩
  · exact .inr (by simp)
  · exact .inr (by simp)
  · exact .inl ⟨t, c, rfl⟩
  · exact .inr (by simp only [List.length_cons]; omega)
theorem row_two {ks vs : List D} {n : Int} {xs : List D} (h : (xs.length : Int) ≠ 2) : rowB ks vs n (.tup xs) = false := by
  rcases xs with _ | ⟨t, _ | ⟨c, _ | ⟨e, r⟩⟩⟩
  · rfl
  · cases t <;> rfl
  · exact absurd rfl h
  · cases t <;> first | rfl | (cases c <;> rfl)
theorem row_none {ks vs : List D} {n : Int} {x : Str} (h : getK (.str x) ks vs = none) (c : D) : rowB ks vs n (.tup [.str x, c]) = false := by
  cases c with
  | tup fs =>
    show (match getK (.str x) ks vs with | some (.int c) => decide ((fs.length : Int) = c) && fs.all (ixB n) | _ => false) = _
    rw [h]
  | _ => rfl
theorem gd_tup2 {t c : D} (h : gd (.tup [t, c]) = true) : gd t = true ∧ gd c = true := by
  unfold gd gdL gdL gdL at h
  rw [Bool.and_eq_true, Bool.and_eq_true] at h
  exact ⟨h.1, h.2.1⟩
theorem row_run {k : Nat} {d : D} {ks vs : List D} {n : Int} {b : Nat} {st : Store} (h : gd d = true) (hc : Cnt ks vs) : Mi.run tb gs 10000 (k+3) 9 [.dct ks vs, .int n, d] b st = Res.ok (.bl (rowB ks vs n d)) st := by
  have key : (Mi.run tb gs 10000 (k+3) 9 [.dct ks vs, .int n, d] b st).S fun v s => v = .bl (rowB ks vs n d) ∧ s = st := by
    refine S_run (fn := f_is_row) rfl rfl ?_
    simp only [f_is_row]
    cases d with
    | loc i => unfold gd at h; cases h
    | ref i => unfold gd at h; cases h
    | ty i => unfold gd at h; cases h
    | scr i => unfold gd at h; cases h
    | tup xs =>
      rcases pair_cases xs with ⟨t, c, rfl⟩ | hl
      · obtain ⟨g1, g2⟩ := gd_tup2 h
        cases t with
        | loc i => unfold gd at g1; cases g1
        | ref i => unfold gd at g1; cases g1
        | ty i => unfold gd at g1; cases g1
        | scr i => unfold gd at g1; cases g1
        | str x =>
          have hk := hasK_getK (k := x) hc.len
          cases hg : getK (.str x) ks vs with
          | none =>
            rw [hg] at hk
            have hk' : hasK (.str x) ks = false := hk
            simp [ev_var, ev_cint, ev_cstr, ev_cbl, ev_cnon, ev_gl, ev_bty, ev_val, ev_tup, ev_lst, ev_dnew, ev_bin, ev_neg, ev_cmp, ev_cmp2, ev_and, ev_or, ev_one, ev_not, ev_ite, ev_ix, ev_sl, ev_rev, ev_call, ev_callk, ev_bi, ev_me, evA_nil, evA_cons, evT_and, evT_or, evT_one, evT_not, evT_ite, evT_nil, evT_cmp, evT_cmp2, evT_cons, evT_val, evP_nil, evP_val, ex_skip, ex_seq, ex_asg, ex_par, ex_six, ex_aug, ex_ex, ex_ret, ex_retN, ex_ife, ex_brk, ex_cont, S_bind, S_ok, some_some, asB_bl, asI_int, getS_z, getS_s, der_non, der_bl, der_int, pder_str, der_tup, der_lst, pder_dct, der_ty, cmp_lt_i, cmp_le_i, cmp_gt_i, cmp_ge_i, cmp_eq_i, cmp_ne_i, cmp_lt_s, cmp_le_s, cmp_eq_s, cmp_ne_s, cmp_eq_l0, cmp_ne_l0, fin_val, fin_dct, len_tup, len_lst, bi_isi (d := .tup [.str x, c]) (t := .ttuple) rfl, bi_isi (d := .str x) (t := .tstr) rfl, truD, asgT, asgL, cmp_nin_d, hk', endF, clo, row_none hg]
          | some v =>
            rw [hg] at hk
            have hk' : hasK (.str x) ks = true := hk
            obtain ⟨m, rfl⟩ := hc.int v (getK_mem hg)
            cases c with
            | loc i => unfold gd at g2; cases g2
            | ref i => unfold gd at g2; cases g2
            | ty i => unfold gd at g2; cases g2
            | scr i => unfold gd at g2; cases g2
            | tup fs =>
              have hfs : gdL fs = true := by unfold gd at g2; exact g2
              have e0 : rowB ks vs n (.tup [.str x, .tup fs]) = (decide ((fs.length : Int) = m) && fs.all (ixB n)) := by
                show (match getK (.str x) ks vs with | some (.int c) => decide ((fs.length : Int) = c) && fs.all (ixB n) | _ => false) = _
                rw [hg]
              rw [e0]
              have hw : ((evA ⟨Mi.run tb gs 10000 (k + 2), gs⟩ st.length (.cons (.var 4) .nil) [some (.dct ks vs), some (.int n), some (.tup [.str x, .tup fs]), some (.str x), some (.tup fs), none] st).bind fun ds st0 => toW .seq ds st0) = .ok (.items fs) st := rfl
              have e2 := S_all1 (R := ⟨Mi.run tb gs 10000 (k + 2), gs⟩) (b := st.length) (σ := [some (.dct ks vs), some (.int n), some (.tup [.str x, .tup fs]), some (.str x), some (.tup fs), none]) (st := st) (ti := 0) (ik := .seq) (ts := .nil) (e := .call "is_index" 8 (.cons (.var 5) (.cons (.var 1) .nil))) (t := .nm 5) (vs := [5]) (st1 := st) (P := ixB n) hw ?_
              · by_cases hm : (fs.length : Int) = m
                · simp [ev_var, ev_cint, ev_cstr, ev_cbl, ev_cnon, ev_gl, ev_bty, ev_val, ev_tup, ev_lst, ev_dnew, ev_bin, ev_neg, ev_cmp, ev_cmp2, ev_and, ev_or, ev_one, ev_not, ev_ite, ev_ix, ev_sl, ev_rev, ev_call, ev_callk, ev_bi, ev_me, evA_nil, evA_cons, evT_and, evT_or, evT_one, evT_not, evT_ite, evT_nil, evT_cmp, evT_cmp2, evT_cons, evT_val, evP_nil, evP_val, ex_skip, ex_seq, ex_asg, ex_par, ex_six, ex_aug, ex_ex, ex_ret, ex_retN, ex_ife, ex_brk, ex_cont, S_bind, S_ok, some_some, asB_bl, asI_int, getS_z, getS_s, der_non, der_bl, der_int, pder_str, der_tup, der_lst, pder_dct, der_ty, cmp_lt_i, cmp_le_i, cmp_gt_i, cmp_ge_i, cmp_eq_i, cmp_ne_i, cmp_lt_s, cmp_le_s, cmp_eq_s, cmp_ne_s, cmp_eq_l0, cmp_ne_l0, fin_val, fin_dct, len_tup, len_lst, bi_isi (d := .tup [.str x, .tup fs]) (t := .ttuple) rfl, bi_isi (d := .str x) (t := .tstr) rfl, bi_isi (d := .tup fs) (t := .ttuple) rfl, truD, asgT, asgL, cmp_nin_d, hk', ix_dct hg, hm, e2, endF, clo]
                · simp [ev_var, ev_cint, ev_cstr, ev_cbl, ev_cnon, ev_gl, ev_bty, ev_val, ev_tup, ev_lst, ev_dnew, ev_bin, ev_neg, ev_cmp, ev_cmp2, ev_and, ev_or, ev_one, ev_not, ev_ite, ev_ix, ev_sl, ev_rev, ev_call, ev_callk, ev_bi, ev_me, evA_nil, evA_cons, evT_and, evT_or, evT_one, evT_not, evT_ite, evT_nil, evT_cmp, evT_cmp2, evT_cons, evT_val, evP_nil, evP_val, ex_skip, ex_seq, ex_asg, ex_par, ex_six, ex_aug, ex_ex, ex_ret, ex_retN, ex_ife, ex_brk, ex_cont, S_bind, S_ok, some_some, asB_bl, asI_int, getS_z, getS_s, der_non, der_bl, der_int, pder_str, der_tup, der_lst, pder_dct, der_ty, cmp_lt_i, cmp_le_i, cmp_gt_i, cmp_ge_i, cmp_eq_i, cmp_ne_i, cmp_lt_s, cmp_le_s, cmp_eq_s, cmp_ne_s, cmp_eq_l0, cmp_ne_l0, fin_val, fin_dct, len_tup, len_lst, bi_isi (d := .tup [.str x, .tup fs]) (t := .ttuple) rfl, bi_isi (d := .str x) (t := .tstr) rfl, bi_isi (d := .tup fs) (t := .ttuple) rfl, truD, asgT, asgL, cmp_nin_d, hk', ix_dct hg, hm, endF, clo]
              · intro y hy
                refine ⟨[some (.dct ks vs), some (.int n), some (.tup [.str x, .tup fs]), some (.str x), some (.tup fs), some y], rfl, by rw [evT_nil], ?_⟩
                simp only [ev_call, evA_cons, evA_nil, ev_var, getS, List.getElem?_cons_succ, List.getElem?_cons_zero, some_some, Res.bind]
                exact ix_run (gdL_mem hfs hy)
            | _ => simp [ev_var, ev_cint, ev_cstr, ev_cbl, ev_cnon, ev_gl, ev_bty, ev_val, ev_tup, ev_lst, ev_dnew, ev_bin, ev_neg, ev_cmp, ev_cmp2, ev_and, ev_or, ev_one, ev_not, ev_ite, ev_ix, ev_sl, ev_rev, ev_call, ev_callk, ev_bi, ev_me, evA_nil, evA_cons, evT_and, evT_or, evT_one, evT_not, evT_ite, evT_nil, evT_cmp, evT_cmp2, evT_cons, evT_val, evP_nil, evP_val, ex_skip, ex_seq, ex_asg, ex_par, ex_six, ex_aug, ex_ex, ex_ret, ex_retN, ex_ife, ex_brk, ex_cont, S_bind, S_ok, some_some, asB_bl, asI_int, getS_z, getS_s, der_non, der_bl, der_int, pder_str, der_tup, der_lst, pder_dct, der_ty, cmp_lt_i, cmp_le_i, cmp_gt_i, cmp_ge_i, cmp_eq_i, cmp_ne_i, cmp_lt_s, cmp_le_s, cmp_eq_s, cmp_ne_s, cmp_eq_l0, cmp_ne_l0, fin_val, fin_dct, len_tup, len_lst, bi_isi (d := .str x) (t := .tstr) rfl, biD, isiD, truD, asgT, asgL, cmp_nin_d, hk', endF, clo, rowB]
        | _ => simp [ev_var, ev_cint, ev_cstr, ev_cbl, ev_cnon, ev_gl, ev_bty, ev_val, ev_tup, ev_lst, ev_dnew, ev_bin, ev_neg, ev_cmp, ev_cmp2, ev_and, ev_or, ev_one, ev_not, ev_ite, ev_ix, ev_sl, ev_rev, ev_call, ev_callk, ev_bi, ev_me, evA_nil, evA_cons, evT_and, evT_or, evT_one, evT_not, evT_ite, evT_nil, evT_cmp, evT_cmp2, evT_cons, evT_val, evP_nil, evP_val, ex_skip, ex_seq, ex_asg, ex_par, ex_six, ex_aug, ex_ex, ex_ret, ex_retN, ex_ife, ex_brk, ex_cont, S_bind, S_ok, some_some, asB_bl, asI_int, getS_z, getS_s, der_non, der_bl, der_int, pder_str, der_tup, der_lst, pder_dct, der_ty, cmp_lt_i, cmp_le_i, cmp_gt_i, cmp_ge_i, cmp_eq_i, cmp_ne_i, cmp_lt_s, cmp_le_s, cmp_eq_s, cmp_ne_s, cmp_eq_l0, cmp_ne_l0, fin_val, fin_dct, len_tup, len_lst, biD, isiD, truD, asgT, asgL, endF, clo, rowB]
      · rw [row_two hl]
        simp [ev_var, ev_cint, ev_cstr, ev_cbl, ev_cnon, ev_gl, ev_bty, ev_val, ev_tup, ev_lst, ev_dnew, ev_bin, ev_neg, ev_cmp, ev_cmp2, ev_and, ev_or, ev_one, ev_not, ev_ite, ev_ix, ev_sl, ev_rev, ev_call, ev_callk, ev_bi, ev_me, evA_nil, evA_cons, evT_and, evT_or, evT_one, evT_not, evT_ite, evT_nil, evT_cmp, evT_cmp2, evT_cons, evT_val, evP_nil, evP_val, ex_skip, ex_seq, ex_asg, ex_par, ex_six, ex_aug, ex_ex, ex_ret, ex_retN, ex_ife, ex_brk, ex_cont, S_bind, S_ok, some_some, asB_bl, asI_int, getS_z, getS_s, der_non, der_bl, der_int, pder_str, der_tup, der_lst, pder_dct, der_ty, cmp_lt_i, cmp_le_i, cmp_gt_i, cmp_ge_i, cmp_eq_i, cmp_ne_i, cmp_lt_s, cmp_le_s, cmp_eq_s, cmp_ne_s, cmp_eq_l0, cmp_ne_l0, fin_val, fin_dct, len_tup, len_lst, bi_isi (d := .tup xs) (t := .ttuple) rfl, truD, hl, endF, clo]
    | _ => simp [ev_var, ev_cint, ev_cstr, ev_cbl, ev_cnon, ev_gl, ev_bty, ev_val, ev_tup, ev_lst, ev_dnew, ev_bin, ev_neg, ev_cmp, ev_cmp2, ev_and, ev_or, ev_one, ev_not, ev_ite, ev_ix, ev_sl, ev_rev, ev_call, ev_callk, ev_bi, ev_me, evA_nil, evA_cons, evT_and, evT_or, evT_one, evT_not, evT_ite, evT_nil, evT_cmp, evT_cmp2, evT_cons, evT_val, evP_nil, evP_val, ex_skip, ex_seq, ex_asg, ex_par, ex_six, ex_aug, ex_ex, ex_ret, ex_retN, ex_ife, ex_brk, ex_cont, S_bind, S_ok, some_some, asB_bl, asI_int, getS_z, getS_s, der_non, der_bl, der_int, pder_str, der_tup, der_lst, pder_dct, der_ty, cmp_lt_i, cmp_le_i, cmp_gt_i, cmp_ge_i, cmp_eq_i, cmp_ne_i, cmp_lt_s, cmp_le_s, cmp_eq_s, cmp_ne_s, cmp_eq_l0, cmp_ne_l0, fin_val, fin_dct, len_tup, len_lst, biD, isiD, endF, clo, rowB, truD]
  obtain ⟨a, s, e, rfl, rfl⟩ := S_get key
  exact e
end K01
end
section
open PySem L2 Mi
namespace K01
def cK (l : List (D × D)) : List D := (mrgD (l ++ [(.str "void", .int 0)]) [] []).1
def cV (l : List (D × D)) : List D := (mrgD (l ++ [(.str "void", .int 0)]) [] []).2
/-- pairs of a text and a number -/
def Prs (l : List (D × D)) : Prop := ∀ p ∈ l, (∃ x : Str, p.1 = .str x) ∧ ∃ c : Int, p.2 = .int c
theorem Prs.cnt0 {l : List (D × D)} (h : Prs l) : Cnt (mrgD l [] []).1 (mrgD l [] []).2 ∧ (mrgD l [] []).1.length ≤ l.length := by
  obtain ⟨h1, h2, h3, h4⟩ := mrg_all (PK := fun a => ∃ x : Str, a = .str x) (PV := fun v => ∃ c : Int, v = .int c) l [] [] h (fun _ h => by cases h) (fun _ h => by cases h)
  exact ⟨⟨mrg_len l rfl, h1, h2⟩, by simpa using h3⟩
theorem Prs.cnt {l : List (D × D)} (h : Prs l) : Cnt (cK l) (cV l) := by
  refine (Prs.cnt0 (l := l ++ [(.str "void", .int 0)]) fun p hp => ?_).1
  rcases List.mem_append.mp hp with hp | hp
  · exact h p hp
  · rw [List.mem_singleton.mp hp]
    exact ⟨⟨_, rfl⟩, 0, rfl⟩
theorem isE0_of {st : Store} {p : Nat} (h : st[p]? = some (.dct [] [])) : isE0 st p = true := by
  unfold isE0
  rw [h]
theorem counts_run {k b : Nat} {st : Store} {es : List D} {l : List (D × D)} (hl : pairsD es = some l) (hp : Prs l) (hn : l.length ≤ 1000) : Mi.run tb gs 10000 (k+1) 6 [.tup es] b st = Res.ok (.dct (cK l) (cV l)) st := by
  have key : (Mi.run tb gs 10000 (k+1) 6 [.tup es] b st).S fun v s => v = .dct (cK l) (cV l) ∧ s = st := by
    refine S_run (fn := f_field_counts) rfl rfl ?_
    simp only [f_field_counts]
    have e1 : biD .dict1 [.tup es] = .newD (mrgD l [] []).1 (mrgD l [] []).2 := by
      show (match pairsD es with | some l => PR.newD (mrgD l [] []).1 (mrgD l [] []).2 | none => .bad) = _
      rw [hl]
    obtain ⟨hc, hcl⟩ := hp.cnt0
    generalize hK : (mrgD l [] []).1 = K at e1 hc hcl
    generalize hV : (mrgD l [] []).2 = V at e1 hc
    have w1 : dstD st.length (st ++ [O.dct [] []]) (.dct K V) = some (st ++ [O.dct K V]) := by
      show (if (isE0 (st ++ [O.dct [] []]) st.length && notLoc st.length (.dct K V)) = true then wr st.length (st ++ [O.dct [] []]) st.length (.dct K V) else none) = _
      rw [if_pos (by rw [isE0_of (by simp)]; rfl), wr_new (o := .dct [] []) (by simp) (fun z => by cases z) (Nat.le_refl _)]
      simp
    have w2 : dspD (st ++ [O.dct K V]).length (st ++ [O.dct K V] ++ [O.dct [] []]) [.str "void", .int 0] = some (st ++ [O.dct K V] ++ [O.dct [.str "void"] [.int 0]]) := by
      show (if (isE0 (st ++ [O.dct K V] ++ [O.dct [] []]) (st ++ [O.dct K V]).length && Nat.ble 1 15) = true then wr (st ++ [O.dct K V]).length (st ++ [O.dct K V] ++ [O.dct [] []]) (st ++ [O.dct K V]).length (.dct [.str "void"] [.int 0]) else none) = _
      rw [if_pos (by rw [isE0_of (by simp)]; rfl), wr_new (o := .dct [] []) (by simp) (fun z => by cases z) (Nat.le_refl _)]
      simp
    have eK : Mi.putD (.str "void") (.int 0) K V = (cK l, cV l) := by
      unfold cK cV
      rw [mrg_app, hK, hV]
    have w3 : dseD st.length (st ++ [O.dct K V]).length (st ++ [O.dct K V] ++ [O.dct [.str "void"] [.int 0]]) = some (st ++ [O.dct (cK l) (cV l)] ++ [O.dct [.str "void"] [.int 0]]) := by
      have g1 : (st ++ [O.dct K V] ++ [O.dct [.str "void"] [.int 0]])[st.length]? = some (.dct K V) := by
        rw [List.getElem?_append_left (by simp)]
        simp
      have g2 : (st ++ [O.dct K V] ++ [O.dct [.str "void"] [.int 0]])[(st ++ [O.dct K V]).length]? = some (.dct [.str "void"] [.int 0]) := by simp
      unfold dseD
      rw [g1, g2]
      show (if Nat.ble (K.length + 15) big = true then wr st.length _ st.length (.dct (Mi.putD (.str "void") (.int 0) K V).1 (Mi.putD (.str "void") (.int 0) K V).2) else none) = _
      rw [if_pos (Nat.ble_eq.mpr (by have : big = 16777216 := rfl; omega)), eK, wr_new g1 (fun z => by cases z) (Nat.le_refl _)]
      simp
    have gv : gs[0]? = some (.str "void") := rfl
    simp only [ev_var, ev_cint, ev_cstr, ev_cbl, ev_cnon, ev_gl, ev_bty, ev_val, ev_tup, ev_lst, ev_dnew, ev_bin, ev_neg, ev_cmp, ev_cmp2, ev_and, ev_or, ev_one, ev_not, ev_ite, ev_ix, ev_sl, ev_rev, ev_call, ev_callk, ev_bi, ev_me, evA_nil, evA_cons, evT_and, evT_or, evT_one, evT_not, evT_ite, evT_nil, evT_cmp, evT_cmp2, evT_cons, evT_val, evP_nil, evP_val, ex_skip, ex_seq, ex_asg, ex_par, ex_six, ex_aug, ex_ex, ex_ret, ex_retN, ex_ife, ex_brk, ex_cont, S_bind, S_ok, some_some, asB_bl, asI_int, getS_z, getS_s, der_non, der_bl, der_int, pder_str, der_tup, der_lst, pder_dct, der_ty, cmp_lt_i, cmp_le_i, cmp_gt_i, cmp_ge_i, cmp_eq_i, cmp_ne_i, cmp_lt_s, cmp_le_s, cmp_eq_s, cmp_ne_s, cmp_eq_l0, cmp_ne_l0, fin_val, fin_dct, len_tup, len_lst, List.getElem?_cons_succ, List.getElem?_cons_zero, List.set_cons_succ, List.set_cons_zero, List.map_cons, List.map_nil, List.replicate, List.cons_append, List.nil_append, if_true, if_false, ite_true, ite_false, Bool.not_true, Bool.not_false, Bool.false_eq_true, Option.map_some, ev_dst, e1, w1, gv, w2, w3]
    refine endF_dct (ks := cK l) (vs := cV l) ?_ (Nat.le_refl _) hp.cnt.gd (by rw [hp.cnt.dp]; decide) ⟨rfl, ?_⟩
    · rw [List.getElem?_append_left (by simp)]
      simp
    · simp
  obtain ⟨a, s, e, rfl, rfl⟩ := S_get key
  exact e
theorem sheet_run {k b : Nat} {st : Store} {es : List D} {l : List (D × D)} {d : D} (hl : pairsD es = some l) (hp : Prs l) (hn : l.length ≤ 1000) (h : gd d = true) : Mi.run tb gs 10000 (k+4) 10 [.tup es, d] b st = Res.ok (.bl (shB (cK l) (cV l) d)) st := by
  have key : (Mi.run tb gs 10000 (k+4) 10 [.tup es, d] b st).S fun v s => v = .bl (shB (cK l) (cV l) d) ∧ s = st := by
    refine S_run (fn := f_is_sheet) rfl rfl ?_
    simp only [f_is_sheet]
    cases d with
    | loc i => unfold gd at h; cases h
    | ref i => unfold gd at h; cases h
    | ty i => unfold gd at h; cases h
    | scr i => unfold gd at h; cases h
    | tup xs =>
      have hxs : gdL xs = true := by unfold gd at h; exact h
      have f0 : fits ([] : List D) = true := rfl
      have es0 : shB (cK l) (cV l) (.tup xs) = (!xs.isEmpty && xs.all (rowB (cK l) (cV l) xs.length)) := rfl
      rw [es0]
      cases he : xs.isEmpty with
      | true => simp [ev_var, ev_cint, ev_cstr, ev_cbl, ev_cnon, ev_gl, ev_bty, ev_val, ev_tup, ev_lst, ev_dnew, ev_bin, ev_neg, ev_cmp, ev_cmp2, ev_and, ev_or, ev_one, ev_not, ev_ite, ev_ix, ev_sl, ev_rev, ev_call, ev_callk, ev_bi, ev_me, evA_nil, evA_cons, evT_and, evT_or, evT_one, evT_not, evT_ite, evT_nil, evT_cmp, evT_cmp2, evT_cons, evT_val, evP_nil, evP_val, ex_skip, ex_seq, ex_asg, ex_par, ex_six, ex_aug, ex_ex, ex_ret, ex_retN, ex_ife, ex_brk, ex_cont, S_bind, S_ok, some_some, asB_bl, asI_int, getS_z, getS_s, der_non, der_bl, der_int, pder_str, der_tup, der_lst, pder_dct, der_ty, cmp_lt_i, cmp_le_i, cmp_gt_i, cmp_ge_i, cmp_eq_i, cmp_ne_i, cmp_lt_s, cmp_le_s, cmp_eq_s, cmp_ne_s, cmp_eq_l0, cmp_ne_l0, fin_val, fin_dct, len_tup, len_lst, bi_isi (d := .tup xs) (t := .ttuple) rfl, truD, f0, cmp_eq_t0, he, endF, clo]
      | false =>
        have hr := counts_run (k := k + 2) (b := st.length) (st := st) hl hp hn
        have hw : ((evA ⟨Mi.run tb gs 10000 (k + 3), gs⟩ st.length (.cons (.var 1) .nil) [some (.tup es), some (.tup xs), some (.dct (cK l) (cV l)), none] st).bind fun ds st0 => toW .seq ds st0) = .ok (.items xs) st := rfl
        have e2 := S_all1 (R := ⟨Mi.run tb gs 10000 (k + 3), gs⟩) (b := st.length) (σ := [some (.tup es), some (.tup xs), some (.dct (cK l) (cV l)), none]) (st := st) (ti := 1) (ik := .seq) (ts := .nil) (e := .call "is_row" 9 (.cons (.var 2) (.cons (.bi .len false (.cons (.var 1) .nil)) (.cons (.var 3) .nil)))) (t := .nm 3) (vs := [3]) (st1 := st) (P := rowB (cK l) (cV l) xs.length) hw ?_
        · simp [ev_var, ev_cint, ev_cstr, ev_cbl, ev_cnon, ev_gl, ev_bty, ev_val, ev_tup, ev_lst, ev_dnew, ev_bin, ev_neg, ev_cmp, ev_cmp2, ev_and, ev_or, ev_one, ev_not, ev_ite, ev_ix, ev_sl, ev_rev, ev_call, ev_callk, ev_bi, ev_me, evA_nil, evA_cons, evT_and, evT_or, evT_one, evT_not, evT_ite, evT_nil, evT_cmp, evT_cmp2, evT_cons, evT_val, evP_nil, evP_val, ex_skip, ex_seq, ex_asg, ex_par, ex_six, ex_aug, ex_ex, ex_ret, ex_retN, ex_ife, ex_brk, ex_cont, S_bind, S_ok, some_some, asB_bl, asI_int, getS_z, getS_s, der_non, der_bl, der_int, pder_str, der_tup, der_lst, pder_dct, der_ty, cmp_lt_i, cmp_le_i, cmp_gt_i, cmp_ge_i, cmp_eq_i, cmp_ne_i, cmp_lt_s, cmp_le_s, cmp_eq_s, cmp_ne_s, cmp_eq_l0, cmp_ne_l0, fin_val, fin_dct, len_tup, len_lst, bi_isi (d := .tup xs) (t := .ttuple) rfl, truD, f0, cmp_eq_t0, he, hr, asgT, e2, endF, clo]
        · intro y hy
          refine ⟨[some (.tup es), some (.tup xs), some (.dct (cK l) (cV l)), some y], rfl, by rw [evT_nil], ?_⟩
          simp only [ev_call, evA_cons, evA_nil, ev_bi, ev_var, getS, List.getElem?_cons_succ, List.getElem?_cons_zero, some_some, Res.bind, List.map, der_tup, len_tup, fin_val]
          exact row_run (gdL_mem hxs hy) hp.cnt
    | _ => simp [ev_var, ev_cint, ev_cstr, ev_cbl, ev_cnon, ev_gl, ev_bty, ev_val, ev_tup, ev_lst, ev_dnew, ev_bin, ev_neg, ev_cmp, ev_cmp2, ev_and, ev_or, ev_one, ev_not, ev_ite, ev_ix, ev_sl, ev_rev, ev_call, ev_callk, ev_bi, ev_me, evA_nil, evA_cons, evT_and, evT_or, evT_one, evT_not, evT_ite, evT_nil, evT_cmp, evT_cmp2, evT_cons, evT_val, evP_nil, evP_val, ex_skip, ex_seq, ex_asg, ex_par, ex_six, ex_aug, ex_ex, ex_ret, ex_retN, ex_ife, ex_brk, ex_cont, S_bind, S_ok, some_some, asB_bl, asI_int, getS_z, getS_s, der_non, der_bl, der_int, pder_str, der_tup, der_lst, pder_dct, der_ty, cmp_lt_i, cmp_le_i, cmp_gt_i, cmp_ge_i, cmp_eq_i, cmp_ne_i, cmp_lt_s, cmp_le_s, cmp_eq_s, cmp_ne_s, cmp_eq_l0, cmp_ne_l0, fin_val, fin_dct, len_tup, len_lst, biD, isiD, endF, clo, shB, truD]
  obtain ⟨a, s, e, rfl, rfl⟩ := S_get key
  exact e
end K01
end
section
open PySem L2 Mi
namespace K01
def fieldS : S := (.seq (.ife (.or (.not (.val (.bi .isi false (.cons (.var 3) (.cons (.bty .tint) .nil))))) (.or (.val (.bi .isi false (.cons (.var 3) (.cons (.bty .tbool) .nil)))) (.one (.not (.cmp2 .LtE .Lt (.cint 0) (.var 3) (.bi .len false (.cons (.var 1) .nil))))))) (.seq (.ret (.cbl false)) .skip) .skip) .skip)
def lawRowS : S := (.seq (.ife (.or (.not (.val (.bi .isi false (.cons (.var 2) (.cons (.bty .ttuple) .nil))))) (.or (.cmp .NotEq (.bi .len false (.cons (.var 2) .nil)) (.cint 2)) (.or (.not (.val (.bi .isi false (.cons (.ix (.var 2) (.cint 0)) (.cons (.bty .tstr) .nil))))) (.one (.cmp .NotIn (.ix (.var 2) (.cint 0)) (.var 0)))))) (.seq (.ret (.cbl false)) .skip) .skip) (.seq (.ife (.or (.not (.val (.bi .isi false (.cons (.ix (.var 2) (.cint 1)) (.cons (.bty .ttuple) .nil))))) (.one (.cmp .NotEq (.bi .len false (.cons (.ix (.var 2) (.cint 1)) .nil)) (.ix (.var 0) (.ix (.var 2) (.cint 0)))))) (.seq (.ret (.cbl false)) .skip) .skip) (.seq (.for_ .seq (.cons (.ix (.var 2) (.cint 1)) .nil) (.nm 3) fieldS) .skip)))
theorem lsheet_body : f__law_is_sheet.body = .seq (.ife (.or (.not (.val (.bi .isi false (.cons (.var 1) (.cons (.bty .ttuple) .nil))))) (.one (.cmp .Eq (.var 1) (.tup .nil)))) (.seq (.ret (.cbl false)) .skip) .skip) (.seq (.for_ .seq (.cons (.var 1) .nil) (.nm 2) lawRowS) (.seq (.ret (.cbl true)) .skip)) := rfl
section
variable {R : Rt} {b : Nat} {st : Store}
def I3 (a c d : D) (σ : Sg) : Prop := ∃ o, σ = [some a, some c, some d, o]
theorem fields_loop {ct row : D} {xs fs : List D} {x : D} (h : gdL fs = true) (hi : ixD row (.int 1) = .val (.tup fs)) (hr : der st row = row) (o : Option D) :
    (fs.all (ixB xs.length) = true ∧ ∃ σ2, I3 ct (.tup xs) row σ2 ∧ ex R 10000 b (.for_ .seq (.cons (.ix (.var 2) (.cint 1)) .nil) (.nm 3) fieldS) [some ct, some (.tup xs), some row, o] st = .ok (.nx σ2) st) ∨
    (fs.all (ixB xs.length) = false ∧ ex R 10000 b (.for_ .seq (.cons (.ix (.var 2) (.cint 1)) .nil) (.nm 3) fieldS) [some ct, some (.tup xs), some row, o] st = .ok (.ret (.bl false)) st) := by
  have a1 : evA R b (.cons (.ix (.var 2) (.cint 1)) .nil) [some ct, some (.tup xs), some row, o] st = .ok [.tup fs] st := by
    simp only [evA_cons, evA_nil, ev_ix, ev_var, ev_cint, getS_s, getS_z, some_some, bind_ok', hr, hi, fin_val]
  refine ex_for_ret (I := I3 ct (.tup xs) row) (bind_ok a1 (toW_items rfl)) ⟨o, rfl⟩ fun y hy σ hI => ?_
  obtain ⟨o', rfl⟩ := hI
  refine ⟨[some ct, some (.tup xs), some row, some y], rfl, ?_⟩
  have hg := gdL_mem h hy
  unfold fieldS
  cases y with
  | loc i => unfold gd at hg; cases hg
  | ref i => unfold gd at hg; cases hg
  | ty i => unfold gd at hg; cases hg
  | scr i => unfold gd at hg; cases hg
  | int i =>
    have e0 : ixB xs.length (.int i) = (decide (0 ≤ i) && decide (i < (xs.length : Int))) := rfl
    rw [e0]
    by_cases h1 : 0 ≤ i
    · by_cases h2 : i < (xs.length : Int)
      · refine .inl ⟨by simp [h1, h2], _, ⟨some (.int i), rfl⟩, ?_⟩
        simp [ev_var, ev_cint, ev_cstr, ev_cbl, ev_cnon, ev_gl, ev_bty, ev_val, ev_tup, ev_lst, ev_dnew, ev_bin, ev_neg, ev_cmp, ev_cmp2, ev_and, ev_or, ev_one, ev_not, ev_ite, ev_ix, ev_sl, ev_rev, ev_call, ev_callk, ev_bi, ev_me, evA_nil, evA_cons, evT_and, evT_or, evT_one, evT_not, evT_ite, evT_nil, evT_cmp, evT_cmp2, evT_cons, evT_val, evP_nil, evP_val, ex_skip, ex_seq, ex_asg, ex_par, ex_six, ex_aug, ex_ex, ex_ret, ex_retN, ex_ife, ex_brk, ex_cont, S_bind, S_ok, some_some, asB_bl, asI_int, getS_z, getS_s, der_non, der_bl, der_int, pder_str, der_tup, der_lst, pder_dct, der_ty, cmp_lt_i, cmp_le_i, cmp_gt_i, cmp_ge_i, cmp_eq_i, cmp_ne_i, cmp_lt_s, cmp_le_s, cmp_eq_s, cmp_ne_s, cmp_eq_l0, cmp_ne_l0, fin_val, fin_dct, len_tup, len_lst, bind_ok', bi_isi (d := .int i) (t := .tint) rfl, bi_isi (d := .int i) (t := .tbool) rfl, truD, h1, h2]
      · refine .inr ⟨by simp [h1, h2], ?_⟩
        simp [ev_var, ev_cint, ev_cstr, ev_cbl, ev_cnon, ev_gl, ev_bty, ev_val, ev_tup, ev_lst, ev_dnew, ev_bin, ev_neg, ev_cmp, ev_cmp2, ev_and, ev_or, ev_one, ev_not, ev_ite, ev_ix, ev_sl, ev_rev, ev_call, ev_callk, ev_bi, ev_me, evA_nil, evA_cons, evT_and, evT_or, evT_one, evT_not, evT_ite, evT_nil, evT_cmp, evT_cmp2, evT_cons, evT_val, evP_nil, evP_val, ex_skip, ex_seq, ex_asg, ex_par, ex_six, ex_aug, ex_ex, ex_ret, ex_retN, ex_ife, ex_brk, ex_cont, S_bind, S_ok, some_some, asB_bl, asI_int, getS_z, getS_s, der_non, der_bl, der_int, pder_str, der_tup, der_lst, pder_dct, der_ty, cmp_lt_i, cmp_le_i, cmp_gt_i, cmp_ge_i, cmp_eq_i, cmp_ne_i, cmp_lt_s, cmp_le_s, cmp_eq_s, cmp_ne_s, cmp_eq_l0, cmp_ne_l0, fin_val, fin_dct, len_tup, len_lst, bind_ok', bi_isi (d := .int i) (t := .tint) rfl, bi_isi (d := .int i) (t := .tbool) rfl, truD, h1, h2]
    · refine .inr ⟨by simp [h1], ?_⟩
      simp [ev_var, ev_cint, ev_cstr, ev_cbl, ev_cnon, ev_gl, ev_bty, ev_val, ev_tup, ev_lst, ev_dnew, ev_bin, ev_neg, ev_cmp, ev_cmp2, ev_and, ev_or, ev_one, ev_not, ev_ite, ev_ix, ev_sl, ev_rev, ev_call, ev_callk, ev_bi, ev_me, evA_nil, evA_cons, evT_and, evT_or, evT_one, evT_not, evT_ite, evT_nil, evT_cmp, evT_cmp2, evT_cons, evT_val, evP_nil, evP_val, ex_skip, ex_seq, ex_asg, ex_par, ex_six, ex_aug, ex_ex, ex_ret, ex_retN, ex_ife, ex_brk, ex_cont, S_bind, S_ok, some_some, asB_bl, asI_int, getS_z, getS_s, der_non, der_bl, der_int, pder_str, der_tup, der_lst, pder_dct, der_ty, cmp_lt_i, cmp_le_i, cmp_gt_i, cmp_ge_i, cmp_eq_i, cmp_ne_i, cmp_lt_s, cmp_le_s, cmp_eq_s, cmp_ne_s, cmp_eq_l0, cmp_ne_l0, fin_val, fin_dct, len_tup, len_lst, bind_ok', bi_isi (d := .int i) (t := .tint) rfl, bi_isi (d := .int i) (t := .tbool) rfl, truD, h1]
  | _ =>
    refine .inr ⟨rfl, ?_⟩
    simp [ev_var, ev_cint, ev_cstr, ev_cbl, ev_cnon, ev_gl, ev_bty, ev_val, ev_tup, ev_lst, ev_dnew, ev_bin, ev_neg, ev_cmp, ev_cmp2, ev_and, ev_or, ev_one, ev_not, ev_ite, ev_ix, ev_sl, ev_rev, ev_call, ev_callk, ev_bi, ev_me, evA_nil, evA_cons, evT_and, evT_or, evT_one, evT_not, evT_ite, evT_nil, evT_cmp, evT_cmp2, evT_cons, evT_val, evP_nil, evP_val, ex_skip, ex_seq, ex_asg, ex_par, ex_six, ex_aug, ex_ex, ex_ret, ex_retN, ex_ife, ex_brk, ex_cont, S_bind, S_ok, some_some, asB_bl, asI_int, getS_z, getS_s, der_non, der_bl, der_int, pder_str, der_tup, der_lst, pder_dct, der_ty, cmp_lt_i, cmp_le_i, cmp_gt_i, cmp_ge_i, cmp_eq_i, cmp_ne_i, cmp_lt_s, cmp_le_s, cmp_eq_s, cmp_ne_s, cmp_eq_l0, cmp_ne_l0, fin_val, fin_dct, len_tup, len_lst, bind_ok', biD, isiD, truD]
theorem rows_loop {ks vs : List D} {xs : List D} (h : gdL xs = true) (hc : Cnt ks vs) :
    (xs.all (rowB ks vs xs.length) = true ∧ ∃ σ2, True ∧ ex R 10000 b (.for_ .seq (.cons (.var 1) .nil) (.nm 2) lawRowS) [some (.dct ks vs), some (.tup xs), none, none] st = .ok (.nx σ2) st) ∨
    (xs.all (rowB ks vs xs.length) = false ∧ ex R 10000 b (.for_ .seq (.cons (.var 1) .nil) (.nm 2) lawRowS) [some (.dct ks vs), some (.tup xs), none, none] st = .ok (.ret (.bl false)) st) := by
  have a1 : evA R b (.cons (.var 1) .nil) [some (.dct ks vs), some (.tup xs), none, none] st = .ok [.tup xs] st := by
    simp only [evA_cons, evA_nil, ev_var, getS_s, getS_z, some_some, bind_ok']
  have key := ex_for_ret (R := R) (fu := 10000) (b := b) (bd := lawRowS) (t := .nm 2) (P := rowB ks vs xs.length) (d := .bl false) (I := fun σ => ∃ o2 o3, σ = [some (.dct ks vs), some (.tup xs), o2, o3]) (bind_ok a1 (toW_items (ik := .seq) (st := st) rfl)) ⟨none, none, rfl⟩ fun y hy σ hI => ?_
  · rcases key with ⟨k1, σ2, _, k2⟩ | ⟨k1, k2⟩
    · exact .inl ⟨k1, σ2, trivial, k2⟩
    · exact .inr ⟨k1, k2⟩
  obtain ⟨o2, o3, rfl⟩ := hI
  refine ⟨[some (.dct ks vs), some (.tup xs), some y, o3], rfl, ?_⟩
  have hg := gdL_mem h hy
  unfold lawRowS
  cases y with
  | loc i => unfold gd at hg; cases hg
  | ref i => unfold gd at hg; cases hg
  | ty i => unfold gd at hg; cases hg
  | scr i => unfold gd at hg; cases hg
  | tup ys =>
    rcases pair_cases ys with ⟨t, c, rfl⟩ | hl
    · obtain ⟨g1, g2⟩ := gd_tup2 hg
      have i0 : ixD (.tup [t, c]) (.int 0) = .val t := rfl
      have i1 : ixD (.tup [t, c]) (.int 1) = .val c := rfl
      cases t with
      | loc i => unfold gd at g1; cases g1
      | ref i => unfold gd at g1; cases g1
      | ty i => unfold gd at g1; cases g1
      | scr i => unfold gd at g1; cases g1
      | str x =>
        have hk := hasK_getK (k := x) hc.len
        cases hgk : getK (.str x) ks vs with
        | none =>
          rw [hgk] at hk
          have hk' : hasK (.str x) ks = false := hk
          refine .inr ⟨row_none hgk c, ?_⟩
          simp [ev_var, ev_cint, ev_cstr, ev_cbl, ev_cnon, ev_gl, ev_bty, ev_val, ev_tup, ev_lst, ev_dnew, ev_bin, ev_neg, ev_cmp, ev_cmp2, ev_and, ev_or, ev_one, ev_not, ev_ite, ev_ix, ev_sl, ev_rev, ev_call, ev_callk, ev_bi, ev_me, evA_nil, evA_cons, evT_and, evT_or, evT_one, evT_not, evT_ite, evT_nil, evT_cmp, evT_cmp2, evT_cons, evT_val, evP_nil, evP_val, ex_skip, ex_seq, ex_asg, ex_par, ex_six, ex_aug, ex_ex, ex_ret, ex_retN, ex_ife, ex_brk, ex_cont, S_bind, S_ok, some_some, asB_bl, asI_int, getS_z, getS_s, der_non, der_bl, der_int, pder_str, der_tup, der_lst, pder_dct, der_ty, cmp_lt_i, cmp_le_i, cmp_gt_i, cmp_ge_i, cmp_eq_i, cmp_ne_i, cmp_lt_s, cmp_le_s, cmp_eq_s, cmp_ne_s, cmp_eq_l0, cmp_ne_l0, fin_val, fin_dct, len_tup, len_lst, bind_ok', bi_isi (d := .tup [.str x, c]) (t := .ttuple) rfl, bi_isi (d := .str x) (t := .tstr) rfl, truD, i0, cmp_nin_d, hk']
        | some v =>
          rw [hgk] at hk
          have hk' : hasK (.str x) ks = true := hk
          obtain ⟨m, rfl⟩ := hc.int v (getK_mem hgk)
          cases c with
          | loc i => unfold gd at g2; cases g2
          | ref i => unfold gd at g2; cases g2
          | ty i => unfold gd at g2; cases g2
          | scr i => unfold gd at g2; cases g2
          | tup fs =>
            have hfs : gdL fs = true := by unfold gd at g2; exact g2
            have e0 : rowB ks vs xs.length (.tup [.str x, .tup fs]) = (decide ((fs.length : Int) = m) && fs.all (ixB xs.length)) := by
              show (match getK (.str x) ks vs with | some (.int c) => decide ((fs.length : Int) = c) && fs.all (ixB xs.length) | _ => false) = _
              rw [hgk]
            rw [e0]
            by_cases hm : (fs.length : Int) = m
            · rcases fields_loop (R := R) (b := b) (st := st) (ct := .dct ks vs) (row := .tup [.str x, .tup fs]) (xs := xs) (x := .non) hfs i1 rfl o3 with ⟨l1, σ2, ⟨o, rfl⟩, l2⟩ | ⟨l1, l2⟩
              · refine .inl ⟨by simp [hm, l1], _, ⟨some (.tup [.str x, .tup fs]), o, rfl⟩, ?_⟩
                simp [ev_var, ev_cint, ev_cstr, ev_cbl, ev_cnon, ev_gl, ev_bty, ev_val, ev_tup, ev_lst, ev_dnew, ev_bin, ev_neg, ev_cmp, ev_cmp2, ev_and, ev_or, ev_one, ev_not, ev_ite, ev_ix, ev_sl, ev_rev, ev_call, ev_callk, ev_bi, ev_me, evA_nil, evA_cons, evT_and, evT_or, evT_one, evT_not, evT_ite, evT_nil, evT_cmp, evT_cmp2, evT_cons, evT_val, evP_nil, evP_val, ex_skip, ex_seq, ex_asg, ex_par, ex_six, ex_aug, ex_ex, ex_ret, ex_retN, ex_ife, ex_brk, ex_cont, S_bind, S_ok, some_some, asB_bl, asI_int, getS_z, getS_s, der_non, der_bl, der_int, pder_str, der_tup, der_lst, pder_dct, der_ty, cmp_lt_i, cmp_le_i, cmp_gt_i, cmp_ge_i, cmp_eq_i, cmp_ne_i, cmp_lt_s, cmp_le_s, cmp_eq_s, cmp_ne_s, cmp_eq_l0, cmp_ne_l0, fin_val, fin_dct, len_tup, len_lst, bind_ok', bi_isi (d := .tup [.str x, .tup fs]) (t := .ttuple) rfl, bi_isi (d := .str x) (t := .tstr) rfl, bi_isi (d := .tup fs) (t := .ttuple) rfl, truD, i0, i1, cmp_nin_d, hk', ix_dct hgk, hm, l2]
              · refine .inr ⟨by simp [l1], ?_⟩
                simp [ev_var, ev_cint, ev_cstr, ev_cbl, ev_cnon, ev_gl, ev_bty, ev_val, ev_tup, ev_lst, ev_dnew, ev_bin, ev_neg, ev_cmp, ev_cmp2, ev_and, ev_or, ev_one, ev_not, ev_ite, ev_ix, ev_sl, ev_rev, ev_call, ev_callk, ev_bi, ev_me, evA_nil, evA_cons, evT_and, evT_or, evT_one, evT_not, evT_ite, evT_nil, evT_cmp, evT_cmp2, evT_cons, evT_val, evP_nil, evP_val, ex_skip, ex_seq, ex_asg, ex_par, ex_six, ex_aug, ex_ex, ex_ret, ex_retN, ex_ife, ex_brk, ex_cont, S_bind, S_ok, some_some, asB_bl, asI_int, getS_z, getS_s, der_non, der_bl, der_int, pder_str, der_tup, der_lst, pder_dct, der_ty, cmp_lt_i, cmp_le_i, cmp_gt_i, cmp_ge_i, cmp_eq_i, cmp_ne_i, cmp_lt_s, cmp_le_s, cmp_eq_s, cmp_ne_s, cmp_eq_l0, cmp_ne_l0, fin_val, fin_dct, len_tup, len_lst, bind_ok', bi_isi (d := .tup [.str x, .tup fs]) (t := .ttuple) rfl, bi_isi (d := .str x) (t := .tstr) rfl, bi_isi (d := .tup fs) (t := .ttuple) rfl, truD, i0, i1, cmp_nin_d, hk', ix_dct hgk, hm, l2]
            · refine .inr ⟨by simp [hm], ?_⟩
              simp [ev_var, ev_cint, ev_cstr, ev_cbl, ev_cnon, ev_gl, ev_bty, ev_val, ev_tup, ev_lst, ev_dnew, ev_bin, ev_neg, ev_cmp, ev_cmp2, ev_and, ev_or, ev_one, ev_not, ev_ite, ev_ix, ev_sl, ev_rev, ev_call, ev_callk, ev_bi, ev_me, evA_nil, evA_cons, evT_and, evT_or, evT_one, evT_not, evT_ite, evT_nil, evT_cmp, evT_cmp2, evT_cons, evT_val, evP_nil, evP_val, ex_skip, ex_seq, ex_asg, ex_par, ex_six, ex_aug, ex_ex, ex_ret, ex_retN, ex_ife, ex_brk, ex_cont, S_bind, S_ok, some_some, asB_bl, asI_int, getS_z, getS_s, der_non, der_bl, der_int, pder_str, der_tup, der_lst, pder_dct, der_ty, cmp_lt_i, cmp_le_i, cmp_gt_i, cmp_ge_i, cmp_eq_i, cmp_ne_i, cmp_lt_s, cmp_le_s, cmp_eq_s, cmp_ne_s, cmp_eq_l0, cmp_ne_l0, fin_val, fin_dct, len_tup, len_lst, bind_ok', bi_isi (d := .tup [.str x, .tup fs]) (t := .ttuple) rfl, bi_isi (d := .str x) (t := .tstr) rfl, bi_isi (d := .tup fs) (t := .ttuple) rfl, truD, i0, i1, cmp_nin_d, hk', ix_dct hgk, hm]
          | _ =>
            refine .inr ⟨rfl, ?_⟩
            simp [ev_var, ev_cint, ev_cstr, ev_cbl, ev_cnon, ev_gl, ev_bty, ev_val, ev_tup, ev_lst, ev_dnew, ev_bin, ev_neg, ev_cmp, ev_cmp2, ev_and, ev_or, ev_one, ev_not, ev_ite, ev_ix, ev_sl, ev_rev, ev_call, ev_callk, ev_bi, ev_me, evA_nil, evA_cons, evT_and, evT_or, evT_one, evT_not, evT_ite, evT_nil, evT_cmp, evT_cmp2, evT_cons, evT_val, evP_nil, evP_val, ex_skip, ex_seq, ex_asg, ex_par, ex_six, ex_aug, ex_ex, ex_ret, ex_retN, ex_ife, ex_brk, ex_cont, S_bind, S_ok, some_some, asB_bl, asI_int, getS_z, getS_s, der_non, der_bl, der_int, pder_str, der_tup, der_lst, pder_dct, der_ty, cmp_lt_i, cmp_le_i, cmp_gt_i, cmp_ge_i, cmp_eq_i, cmp_ne_i, cmp_lt_s, cmp_le_s, cmp_eq_s, cmp_ne_s, cmp_eq_l0, cmp_ne_l0, fin_val, fin_dct, len_tup, len_lst, bind_ok', bi_isi (d := .str x) (t := .tstr) rfl, biD, isiD, truD, i0, i1, cmp_nin_d, hk']
      | _ =>
        refine .inr ⟨by cases c <;> rfl, ?_⟩
        simp [ev_var, ev_cint, ev_cstr, ev_cbl, ev_cnon, ev_gl, ev_bty, ev_val, ev_tup, ev_lst, ev_dnew, ev_bin, ev_neg, ev_cmp, ev_cmp2, ev_and, ev_or, ev_one, ev_not, ev_ite, ev_ix, ev_sl, ev_rev, ev_call, ev_callk, ev_bi, ev_me, evA_nil, evA_cons, evT_and, evT_or, evT_one, evT_not, evT_ite, evT_nil, evT_cmp, evT_cmp2, evT_cons, evT_val, evP_nil, evP_val, ex_skip, ex_seq, ex_asg, ex_par, ex_six, ex_aug, ex_ex, ex_ret, ex_retN, ex_ife, ex_brk, ex_cont, S_bind, S_ok, some_some, asB_bl, asI_int, getS_z, getS_s, der_non, der_bl, der_int, pder_str, der_tup, der_lst, pder_dct, der_ty, cmp_lt_i, cmp_le_i, cmp_gt_i, cmp_ge_i, cmp_eq_i, cmp_ne_i, cmp_lt_s, cmp_le_s, cmp_eq_s, cmp_ne_s, cmp_eq_l0, cmp_ne_l0, fin_val, fin_dct, len_tup, len_lst, bind_ok', biD, isiD, truD, i0]
    · refine .inr ⟨row_two hl, ?_⟩
      simp [ev_var, ev_cint, ev_cstr, ev_cbl, ev_cnon, ev_gl, ev_bty, ev_val, ev_tup, ev_lst, ev_dnew, ev_bin, ev_neg, ev_cmp, ev_cmp2, ev_and, ev_or, ev_one, ev_not, ev_ite, ev_ix, ev_sl, ev_rev, ev_call, ev_callk, ev_bi, ev_me, evA_nil, evA_cons, evT_and, evT_or, evT_one, evT_not, evT_ite, evT_nil, evT_cmp, evT_cmp2, evT_cons, evT_val, evP_nil, evP_val, ex_skip, ex_seq, ex_asg, ex_par, ex_six, ex_aug, ex_ex, ex_ret, ex_retN, ex_ife, ex_brk, ex_cont, S_bind, S_ok, some_some, asB_bl, asI_int, getS_z, getS_s, der_non, der_bl, der_int, pder_str, der_tup, der_lst, pder_dct, der_ty, cmp_lt_i, cmp_le_i, cmp_gt_i, cmp_ge_i, cmp_eq_i, cmp_ne_i, cmp_lt_s, cmp_le_s, cmp_eq_s, cmp_ne_s, cmp_eq_l0, cmp_ne_l0, fin_val, fin_dct, len_tup, len_lst, bind_ok', bi_isi (d := .tup ys) (t := .ttuple) rfl, truD, hl]
  | _ =>
    refine .inr ⟨rfl, ?_⟩
    simp [ev_var, ev_cint, ev_cstr, ev_cbl, ev_cnon, ev_gl, ev_bty, ev_val, ev_tup, ev_lst, ev_dnew, ev_bin, ev_neg, ev_cmp, ev_cmp2, ev_and, ev_or, ev_one, ev_not, ev_ite, ev_ix, ev_sl, ev_rev, ev_call, ev_callk, ev_bi, ev_me, evA_nil, evA_cons, evT_and, evT_or, evT_one, evT_not, evT_ite, evT_nil, evT_cmp, evT_cmp2, evT_cons, evT_val, evP_nil, evP_val, ex_skip, ex_seq, ex_asg, ex_par, ex_six, ex_aug, ex_ex, ex_ret, ex_retN, ex_ife, ex_brk, ex_cont, S_bind, S_ok, some_some, asB_bl, asI_int, getS_z, getS_s, der_non, der_bl, der_int, pder_str, der_tup, der_lst, pder_dct, der_ty, cmp_lt_i, cmp_le_i, cmp_gt_i, cmp_ge_i, cmp_eq_i, cmp_ne_i, cmp_lt_s, cmp_le_s, cmp_eq_s, cmp_ne_s, cmp_eq_l0, cmp_ne_l0, fin_val, fin_dct, len_tup, len_lst, bind_ok', biD, isiD, truD]
end
theorem lsheet_run {k b : Nat} {st : Store} {ks vs : List D} {d : D} (hc : Cnt ks vs) (h : gd d = true) : Mi.run tb gs 10000 (k+1) 11 [.dct ks vs, d] b st = Res.ok (.bl (shB ks vs d)) st := by
  have key : (Mi.run tb gs 10000 (k+1) 11 [.dct ks vs, d] b st).S fun v s => v = .bl (shB ks vs d) ∧ s = st := by
    refine S_run (fn := f__law_is_sheet) rfl rfl ?_
    rw [lsheet_body]
    have hgc : f__law_is_sheet.gc = true := rfl
    have hnp : f__law_is_sheet.nl = 2 := rfl
    rw [hgc, hnp]
    cases d with
    | loc i => unfold gd at h; cases h
    | ref i => unfold gd at h; cases h
    | ty i => unfold gd at h; cases h
    | scr i => unfold gd at h; cases h
    | tup xs =>
      have hxs : gdL xs = true := by unfold gd at h; exact h
      have f0 : fits ([] : List D) = true := rfl
      have es0 : shB ks vs (.tup xs) = (!xs.isEmpty && xs.all (rowB ks vs xs.length)) := rfl
      rw [es0]
      cases he : xs.isEmpty with
      | true => simp [ev_var, ev_cint, ev_cstr, ev_cbl, ev_cnon, ev_gl, ev_bty, ev_val, ev_tup, ev_lst, ev_dnew, ev_bin, ev_neg, ev_cmp, ev_cmp2, ev_and, ev_or, ev_one, ev_not, ev_ite, ev_ix, ev_sl, ev_rev, ev_call, ev_callk, ev_bi, ev_me, evA_nil, evA_cons, evT_and, evT_or, evT_one, evT_not, evT_ite, evT_nil, evT_cmp, evT_cmp2, evT_cons, evT_val, evP_nil, evP_val, ex_skip, ex_seq, ex_asg, ex_par, ex_six, ex_aug, ex_ex, ex_ret, ex_retN, ex_ife, ex_brk, ex_cont, S_bind, S_ok, some_some, asB_bl, asI_int, getS_z, getS_s, der_non, der_bl, der_int, pder_str, der_tup, der_lst, pder_dct, der_ty, cmp_lt_i, cmp_le_i, cmp_gt_i, cmp_ge_i, cmp_eq_i, cmp_ne_i, cmp_lt_s, cmp_le_s, cmp_eq_s, cmp_ne_s, cmp_eq_l0, cmp_ne_l0, fin_val, fin_dct, len_tup, len_lst, bi_isi (d := .tup xs) (t := .ttuple) rfl, truD, f0, cmp_eq_t0, he, endF, clo]
      | false =>
        rcases rows_loop (R := ⟨Mi.run tb gs 10000 k, gs⟩) (b := st.length) (st := st) hxs hc with ⟨l1, σ2, _, l2⟩ | ⟨l1, l2⟩
        · simp [ev_var, ev_cint, ev_cstr, ev_cbl, ev_cnon, ev_gl, ev_bty, ev_val, ev_tup, ev_lst, ev_dnew, ev_bin, ev_neg, ev_cmp, ev_cmp2, ev_and, ev_or, ev_one, ev_not, ev_ite, ev_ix, ev_sl, ev_rev, ev_call, ev_callk, ev_bi, ev_me, evA_nil, evA_cons, evT_and, evT_or, evT_one, evT_not, evT_ite, evT_nil, evT_cmp, evT_cmp2, evT_cons, evT_val, evP_nil, evP_val, ex_skip, ex_seq, ex_asg, ex_par, ex_six, ex_aug, ex_ex, ex_ret, ex_retN, ex_ife, ex_brk, ex_cont, S_bind, S_ok, some_some, asB_bl, asI_int, getS_z, getS_s, der_non, der_bl, der_int, pder_str, der_tup, der_lst, pder_dct, der_ty, cmp_lt_i, cmp_le_i, cmp_gt_i, cmp_ge_i, cmp_eq_i, cmp_ne_i, cmp_lt_s, cmp_le_s, cmp_eq_s, cmp_ne_s, cmp_eq_l0, cmp_ne_l0, fin_val, fin_dct, len_tup, len_lst, bind_ok', bi_isi (d := .tup xs) (t := .ttuple) rfl, truD, f0, cmp_eq_t0, he, l1, l2, endF, clo]
        · simp [ev_var, ev_cint, ev_cstr, ev_cbl, ev_cnon, ev_gl, ev_bty, ev_val, ev_tup, ev_lst, ev_dnew, ev_bin, ev_neg, ev_cmp, ev_cmp2, ev_and, ev_or, ev_one, ev_not, ev_ite, ev_ix, ev_sl, ev_rev, ev_call, ev_callk, ev_bi, ev_me, evA_nil, evA_cons, evT_and, evT_or, evT_one, evT_not, evT_ite, evT_nil, evT_cmp, evT_cmp2, evT_cons, evT_val, evP_nil, evP_val, ex_skip, ex_seq, ex_asg, ex_par, ex_six, ex_aug, ex_ex, ex_ret, ex_retN, ex_ife, ex_brk, ex_cont, S_bind, S_ok, some_some, asB_bl, asI_int, getS_z, getS_s, der_non, der_bl, der_int, pder_str, der_tup, der_lst, pder_dct, der_ty, cmp_lt_i, cmp_le_i, cmp_gt_i, cmp_ge_i, cmp_eq_i, cmp_ne_i, cmp_lt_s, cmp_le_s, cmp_eq_s, cmp_ne_s, cmp_eq_l0, cmp_ne_l0, fin_val, fin_dct, len_tup, len_lst, bind_ok', bi_isi (d := .tup xs) (t := .ttuple) rfl, truD, f0, cmp_eq_t0, he, l1, l2, endF, clo]
    | _ => simp [ev_var, ev_cint, ev_cstr, ev_cbl, ev_cnon, ev_gl, ev_bty, ev_val, ev_tup, ev_lst, ev_dnew, ev_bin, ev_neg, ev_cmp, ev_cmp2, ev_and, ev_or, ev_one, ev_not, ev_ite, ev_ix, ev_sl, ev_rev, ev_call, ev_callk, ev_bi, ev_me, evA_nil, evA_cons, evT_and, evT_or, evT_one, evT_not, evT_ite, evT_nil, evT_cmp, evT_cmp2, evT_cons, evT_val, evP_nil, evP_val, ex_skip, ex_seq, ex_asg, ex_par, ex_six, ex_aug, ex_ex, ex_ret, ex_retN, ex_ife, ex_brk, ex_cont, S_bind, S_ok, some_some, asB_bl, asI_int, getS_z, getS_s, der_non, der_bl, der_int, pder_str, der_tup, der_lst, pder_dct, der_ty, cmp_lt_i, cmp_le_i, cmp_gt_i, cmp_ge_i, cmp_eq_i, cmp_ne_i, cmp_lt_s, cmp_le_s, cmp_eq_s, cmp_ne_s, cmp_eq_l0, cmp_ne_l0, fin_val, fin_dct, len_tup, len_lst, biD, isiD, endF, clo, shB, truD]
  obtain ⟨a, s, e, rfl, rfl⟩ := S_get key
  exact e
end K01
end
section
open PySem L2 Mi
namespace K01
/-- a signature: pairs of a text and a number -/
structure Sig (es : List D) (l : List (D × D)) : Prop where
  pr : pairsD es = some l
  ok : Prs l
  len : es.length ≤ 1000
theorem pairs_len : ∀ {es : List D} {l : List (D × D)}, pairsD es = some l → l.length = es.length
  | [], l, h => by cases h; rfl
  | e :: r, l, h => by
    unfold pairsD at h
    split at h
    · rename_i h0; cases h0
    · rename_i k v r' h0
      cases h0
      split at h
      · rename_i kx l' h1 h2
        cases h
        rw [List.length_cons, List.length_cons, pairs_len h2]
      · cases h
    · cases h
theorem pairs_void : ∀ {es : List D} {l : List (D × D)}, pairsD es = some l → pairsD (es ++ [.tup [.str "void", .int 0]]) = some (l ++ [(.str "void", .int 0)])
  | [], l, h => by cases h; rfl
  | e :: r, l, h => by
    unfold pairsD at h
    split at h
    · rename_i h0; cases h0
    · rename_i k v r' h0
      cases h0
      split at h
      · rename_i kx l' h1 h2
        cases h
        have ih := pairs_void h2
        show (match keyOf k, pairsD (r ++ [.tup [.str "void", .int 0]]) with | some _, some l => some ((k, v) :: l) | _, _ => none) = _
        rw [ih, h1]
        rfl
      · cases h
    · cases h
def reprF (d : D) : D := match d with
  | .bl c => .str (tfS c)
  | _ => .non
theorem right_run {k b : Nat} {st : Store} {es : List D} {l : List (D × D)} {d : D} (hs : Sig es l) (h : Rp d) : Mi.run tb gs 10000 (k+5) 12 [.tup es, d] b st = Res.ok (.bl true) st := by
  have key : (Mi.run tb gs 10000 (k+5) 12 [.tup es, d] b st).S fun v s => v = .bl true ∧ s = st := by
    refine S_run (fn := f__law_right) rfl rfl ?_
    simp only [f__law_right]
    obtain ⟨z, hz⟩ := repr_ok h.s h.g h.k h.dp h.w
    have hl : l.length ≤ 1000 := by rw [pairs_len hs.pr]; exact hs.len
    have r1 := lsheet_run (k := k + 3) (b := st.length) (st := st) hs.ok.cnt h.g
    have r2 := sheet_run (k := k) (b := st.length) (st := st) hs.pr hs.ok hl h.g
    have hd := fun s => gd_der s h.g
    have li : biD .list [.tup es] = .newL es := rfl
    have bg : big = 16777216 := rfl
    have := hs.len
    have fe : fits es = true := fits_of (by omega)
    have fe2 : fits (es ++ [D.tup [.str "void", .int 0]]) = true := fits_of (by rw [List.length_append, List.length_singleton]; omega)
    have f1 : ∀ u : D, fits [u] = true := fun _ => rfl
    have f2 : ∀ u v : D, fits [u, v] = true := fun _ _ => rfl
    have dk : biD .dict1 [.lst (es ++ [D.tup [.str "void", .int 0]])] = .newD (cK l) (cV l) := by
      show (match pairsD (es ++ [D.tup [.str "void", .int 0]]) with | some l => PR.newD (mrgD l [] []).1 (mrgD l [] []).2 | none => .bad) = _
      rw [pairs_void hs.pr]
      rfl
    generalize hc : shB (cK l) (cV l) d = c at r1 r2
    have e1 : ev ⟨Mi.run tb gs 10000 (k + 4), gs⟩ st.length (.lc .seq (.cons (.var 2) .nil) (.nm 5) .nil (.bi .repr false (.cons (.var 5) .nil)) [5]) [some (.tup es), some d, some (.loc st.length), some (.str z), some (.str (tfS c)), none] (st ++ [O.lst [.bl c, .bl c]]) = .ok (.loc (st ++ [O.lst [D.bl c, .bl c]]).length) (st ++ [O.lst [.bl c, .bl c]] ++ [O.lst [.str (tfS c), .str (tfS c)]]) := by
      have a1 : evA ⟨Mi.run tb gs 10000 (k + 4), gs⟩ st.length (.cons (.var 2) .nil) [some (.tup es), some d, some (.loc st.length), some (.str z), some (.str (tfS c)), none] (st ++ [O.lst [.bl c, .bl c]]) = .ok [.loc st.length] (st ++ [O.lst [.bl c, .bl c]]) := by
        simp only [evA_cons, evA_nil, ev_var, getS_s, getS_z, some_some, bind_ok']
      have hr : (st ++ [O.lst [D.bl c, .bl c]])[st.length]? = some (.lst [.bl c, .bl c]) := by simp
      refine S_lcX (F := reprF) (P := fun _ => true) (bind_ok a1 (toW_loc hr)) hr (by show 2 ≤ 16777216; decide) fun x hx acc => ?_
      refine ⟨[some (.tup es), some d, some (.loc st.length), some (.str z), some (.str (tfS c)), some x], rfl, by rw [evT_nil], fun _ => ?_⟩
      have hx' : x = .bl c := by
        simp only [List.mem_cons, List.not_mem_nil, or_false] at hx
        rcases hx with rfl | rfl <;> rfl
      subst hx'
      simp only [ev_bi, evA_cons, evA_nil, ev_var, getS_s, getS_z, some_some, bind_ok', List.map_cons, List.map_nil, der_bl, bi_repr, repr_bl, fin_val]
      rfl
    have tl : (tfS c).length ≤ big := by cases c <;> decide
    have c1 : cmpS .Eq (st ++ [O.lst [.bl c, .bl c]] ++ [O.lst [.str (tfS c), .str (tfS c)]]) (.loc (st ++ [O.lst [D.bl c, .bl c]]).length) (.lst [.str (tfS c), .str (tfS c)]) = some true := by
      have := cmp_eq_LS (st := st ++ [O.lst [.bl c, .bl c]] ++ [O.lst [.str (tfS c), .str (tfS c)]]) (i := (st ++ [O.lst [D.bl c, .bl c]]).length) (xs := [tfS c, tfS c]) (ys := [tfS c, tfS c]) (by simp) (fun x hx => by simp at hx; rw [hx]; exact tl) (fun x hx => by simp at hx; rw [hx]; exact tl) rfl
      rw [decide_eq_true rfl] at this
      exact this
    have sa : ∀ s : Store, (PR.newL [D.bl c, .bl c]).fin true s = .ok (.loc s.length) (s ++ [O.lst [.bl c, .bl c]]) := fun s => fin_lstO rfl
    have fL : ∀ s : Store, (PR.newL [D.str (tfS c), .str (tfS c)]).fin false s = .ok (.lst [.str (tfS c), .str (tfS c)]) s := fun s => fin_lst rfl
    have fV : ∀ s : Store, (PR.newL [D.tup [.str "void", .int 0]]).fin false s = .ok (.lst [D.tup [.str "void", .int 0]]) s := fun s => fin_lst rfl
    have pk : pick [d, D.tup es] [1, 0] = some [.tup es, d] := rfl
    have nl0 : ([] : List D).length = 0 := rfl
    have nl2 : ([d, .tup es] : List D).length = 2 := rfl
    have nl3 : ([Str.ofString "thing", Str.ofString "signature"] : List Str).length = 2 := rfl
    simp only [ev_var, ev_cint, ev_cstr, ev_cbl, ev_cnon, ev_gl, ev_bty, ev_val, ev_tup, ev_lst, ev_dnew, ev_bin, ev_neg, ev_cmp, ev_cmp2, ev_and, ev_or, ev_one, ev_not, ev_ite, ev_ix, ev_sl, ev_rev, ev_call, ev_callk, ev_bi, ev_me, evA_nil, evA_cons, evT_and, evT_or, evT_one, evT_not, evT_ite, evT_nil, evT_cmp, evT_cmp2, evT_cons, evT_val, evP_nil, evP_val, ex_skip, ex_seq, ex_asg, ex_par, ex_six, ex_aug, ex_ex, ex_ret, ex_retN, ex_ife, ex_brk, ex_cont, S_bind, S_ok, some_some, asB_bl, asI_int, getS_z, getS_s, der_non, der_bl, der_int, pder_str, der_tup, der_lst, pder_dct, der_ty, cmp_lt_i, cmp_le_i, cmp_gt_i, cmp_ge_i, cmp_eq_i, cmp_ne_i, cmp_lt_s, cmp_le_s, cmp_eq_s, cmp_ne_s, cmp_eq_l0, cmp_ne_l0, fin_val, fin_dct, len_tup, len_lst, List.getElem?_cons_succ, List.getElem?_cons_zero, List.set_cons_succ, List.set_cons_zero, List.map_cons, List.map_nil, List.replicate, List.cons_append, List.nil_append, if_true, if_false, ite_true, ite_false, Bool.not_true, Bool.not_false, Bool.false_eq_true, Option.map_some, hd, bi_repr, hz, f2, li, fin_lst fe, fV, bin_addL, fin_lst fe2, dk, r1, repr_bl, setAll, r2, asgT, sa, pk, and_self, nl2, nl3, nl0, bind_ok', e1, fL, c1, decide_true]
    refine endF_S rfl ⟨rfl, ?_⟩
    simp
  obtain ⟨a, s, e, rfl, rfl⟩ := S_get key
  exact e
end K01
end
section
open PySem L2 Mi
namespace K01
theorem draw_run {k n p q lim b : Nat} {st : Store} {Q : D → Store → Prop} (h : Dk n st p q) (hn : n ≤ 1000000) (h0 : 0 < lim) (h1 : lim ≤ 1000000) (hQ : ∀ (j : Nat) (s : Store), j < lim → Dk (n + 1) s p q → Sm p q st s → Q (.int j) s) :
    (Mi.run tb gs 10000 (k+1) 1 [.loc p, .int lim] b st).S Q := drawG_run (ad := 37) (ml := 69621) rfl (by decide) (by decide) (by decide) (by decide) h hn h0 h1 hQ
theorem pick_run {k n p q b : Nat} {st : Store} {items : D} {xs : List D} {Q : D → Store → Prop} (h : Dk n st p q) (hn : n ≤ 1000000) (hl : LsAt st p q items xs) (h0 : 0 < xs.length) (h1 : xs.length ≤ 1000000) (hg : ∀ x ∈ xs, clo st.length x = true)
    (hQ : ∀ (x : D) (s : Store), x ∈ xs → Dk (n + 1) s p q → Sm p q st s → Q x s) : (Mi.run tb gs 10000 (k+2) 3 [.loc p, items] b st).S Q := pickG_run (ad := 37) (ml := 69621) rfl (by decide) (by decide) (by decide) (by decide) rfl h hn hl h0 h1 hg hQ
theorem deck_run {k b : Nat} {ns : List Int} {st : Store} {Q : D → Store → Prop} (hQ : ∀ (s : Store), s.length = st.length + 4 → Dk 0 s (st.length + 3) (st.length + 2) → s.take st.length = st → Q (.loc (st.length + 3)) s) :
    (Mi.run tb gs 10000 (k+1) 0 [.scr ns] b st).S Q := deckG_run (t0 := 91019) (ad := 37) (ml := 69621) rfl (by decide) (by decide) (by decide) (by decide) hQ
/-- the letters -/
def alpha : Str := "abcdefghijklmnopqrstuvwxyz"
theorem alpha_at (i c : Nat) : alpha.cps.toList[i]? = some c ↔ i < 26 ∧ c = 97 + i := by
  have e : alpha.cps.toList = List.range' 97 26 := by decide +kernel
  rw [e]
  by_cases h : i < 26
  · rw [List.getElem?_range' h]
    constructor
    · intro q
      cases q
      exact ⟨h, by omega⟩
    · rintro ⟨_, h2⟩
      rw [h2]
      congr 1
      omega
  · rw [List.getElem?_eq_none (by rw [List.length_range']; omega)]
    exact ⟨fun q => (by cases q), fun q => absurd q.1 h⟩
def w1S : Str := "case part tag call ask same is not both either yes no and or none one root union take"
def w2S : Str := "never number plus least most make test gather else rank tags voids"
def wds : List Str := Txt.split w1S " " ++ Txt.split w2S " "
def letS (i : Nat) : Str := ⟨#[97 + i]⟩
def prefS (i : Nat) : Str := cutS "zyxwvuts" none (some (1 + (i : Int) % 8))
def NM : List Str := (List.range 26).map letS ++ wds ++ (List.range 8).map prefS ++ ((List.range 26).map fun i => ("abcdefg" : Str) ++ letS i) ++ [("void" : Str)]
theorem wds_len : wds.length = 31 := by decide +kernel
theorem nm_let {i : Nat} (h : i < 26) : letS i ∈ NM := by
  unfold NM
  simp only [List.mem_append]
  exact .inl (.inl (.inl (.inl (List.mem_map.mpr ⟨i, List.mem_range.mpr h, rfl⟩))))
theorem nm_wd {x : Str} (h : x ∈ wds) : x ∈ NM := by
  unfold NM
  simp only [List.mem_append]
  exact .inl (.inl (.inl (.inr h)))
theorem nm_pref {i : Nat} (h : i < 8) : prefS i ∈ NM := by
  unfold NM
  simp only [List.mem_append]
  exact .inl (.inl (.inr (List.mem_map.mpr ⟨i, List.mem_range.mpr h, rfl⟩)))
theorem nm_last {i : Nat} (h : i < 26) : ("abcdefg" : Str) ++ letS i ∈ NM := by
  unfold NM
  simp only [List.mem_append]
  exact .inl (.inr (List.mem_map.mpr ⟨i, List.mem_range.mpr h, rfl⟩))
theorem nm_void : ("void" : Str) ∈ NM := by
  unfold NM
  simp only [List.mem_append]
  exact .inr List.mem_cons_self
/-- the name drawn at a turn -/
def nmAt (way fst i : Nat) : Str := match way with
  | 0 => letS ((fst + 5 * i) % 26)
  | 1 => wds.getD ((fst + 3 * i) % 31) ""
  | 2 => prefS i
  | _ => ("abcdefg" : Str) ++ letS ((fst + 5 * i) % 26)
def nmsL (way fst m : Nat) : List Str := (List.range m).map (nmAt way fst)
def isNd : List Str → Bool
  | [] => true
  | x :: r => !(r.any fun y => decide (x = y)) && isNd r
theorem nd_of : ∀ {l : List Str}, isNd l = true → l.Nodup
  | [], _ => List.nodup_nil
  | x :: r, h => by
    unfold isNd at h
    rw [Bool.and_eq_true] at h
    refine List.nodup_cons.mpr ⟨fun hx => ?_, nd_of h.2⟩
    have : (r.any fun y => decide (x = y)) = true := List.any_eq_true.mpr ⟨x, hx, decide_eq_true rfl⟩
    rw [this] at h
    exact Bool.false_ne_true h.1
theorem nms_six : ((List.range 4).all fun w => (List.range 26).all fun f => isNd (nmsL w f 6) && (nmsL w f 6).all fun x => !decide (x = "void") && NM.any fun y => decide (x = y)) = true := by decide +kernel
theorem nms_ok {w f m : Nat} (hw : w < 4) (hf : f < 26) (hm : m ≤ 6) : (nmsL w f m).Nodup ∧ ∀ x ∈ nmsL w f m, x ∈ NM ∧ x ≠ "void" := by
  have h := List.all_eq_true.mp (List.all_eq_true.mp nms_six w (List.mem_range.mpr hw)) f (List.mem_range.mpr hf)
  rw [Bool.and_eq_true] at h
  have e : nmsL w f m = (nmsL w f 6).take m := by
    unfold nmsL
    rw [← List.map_take, List.take_range, Nat.min_eq_left hm]
  rw [e]
  refine ⟨(nd_of h.1).sublist (List.take_sublist _ _), fun x hx => ?_⟩
  have h2 := List.all_eq_true.mp h.2 x (List.mem_of_mem_take hx)
  rw [Bool.and_eq_true] at h2
  obtain ⟨y, hy, hxy⟩ := List.any_eq_true.mp h2.2
  rw [of_decide_eq_true hxy]
  refine ⟨hy, fun z => ?_⟩
  rw [of_decide_eq_true hxy, z] at h2
  exact Bool.false_ne_true h2.1
theorem ins_perm (x : Str) : ∀ l : List Str, (insS x l).Perm (x :: l)
  | [] => .refl _
  | y :: r => by
    unfold insS
    split
    · exact ((ins_perm x r).cons y).trans (.swap x y r)
    · exact .refl _
theorem sort_perm : ∀ l : List Str, (sortS l).Perm l
  | [] => .refl _
  | x :: r => (ins_perm x (sortS r)).trans ((sort_perm r).cons x)
def NmP (p m a3 a4 way fst : Nat) (s5 : Store) (i : Nat) (σ : Sg) (s : Store) : Prop := ∃ (o4 o8 : Option D) (acc : List D),
  σ = [some (.loc p), some (.int m), some (.loc a3), some (.loc a4), o4, some (.str "abcdefghijklmnopqrstuvwxyz"), some (.int way), some (.int fst), o8] ∧ (s.length = s5.length ∧ s[a4]? = some (.lst acc) ∧ acc = (nmsL way fst i).map .str ∧ ∀ j : Nat, j ≠ a4 → s[j]? = s5[j]?)
def nmBody : S := .seq (.asg (.nm 8) (.ix (.var 5) (.bin false .Mod (.bin false .Add (.var 7) (.bin false .Mult (.cint 5) (.var 4))) (.cint 26)))) (.seq (.ex (.me .append false (.var 3) (.cons (.ix (.lst false (.cons (.var 8) (.cons (.ix (.var 2) (.bin false .Mod (.bin false .Add (.var 7) (.bin false .Mult (.cint 3) (.var 4))) (.cint 31))) (.cons (.ite (.cmp .Lt (.var 4) (.cint 8)) (.sl false (.cstr "zyxwvuts") .nil (.val (.bin false .Add (.cint 1) (.bin false .Mod (.var 4) (.cint 8))))) (.bin false .Add (.var 8) (.sl false (.cstr "void") .nil (.val (.cint 3))))) (.cons (.bin false .Add (.cstr "abcdefg") (.var 8)) .nil))))) (.var 6)) .nil))) .skip)
theorem names_loop {R : Rt} {p m a3 a4 way fst b : Nat} {s5 : Store} (hm : m ≤ 6) (hway : way < 4) (hw5 : s5[a3]? = some (.lst (wds.map .str))) (hf5 : s5[a4]? = some (.lst [])) (h34 : a3 ≠ a4) (hb : b ≤ a4) :
    (ex R 10000 b (.for_ .range1 (.cons (.var 1) .nil) (.nm 4) nmBody) [some (.loc p), some (.int m), some (.loc a3), some (.loc a4), none, some (.str "abcdefghijklmnopqrstuvwxyz"), some (.int way), some (.int fst), none] s5).S fun f s => ∃ σ2, f = .nx σ2 ∧ NmP p m a3 a4 way fst s5 m σ2 s := by
  have hrl : (rng 0 m).length = m := by unfold rng; simp
  have hs4l5 : a4 < s5.length := (List.getElem?_eq_some_iff.mp hf5).1
  have hw : ((evA R b (.cons (.var 1) .nil) [some (.loc p), some (.int m), some (.loc a3), some (.loc a4), none, some (.str "abcdefghijklmnopqrstuvwxyz"), some (.int way), some (.int fst), none] s5).bind fun ds st0 => toW .range1 ds st0) = .ok (.items (rng 0 m)) s5 := by
    have a1 : evA R b (.cons (.var 1) .nil) [some (.loc p), some (.int m), some (.loc a3), some (.loc a4), none, some (.str "abcdefghijklmnopqrstuvwxyz"), some (.int way), some (.int fst), none] s5 = .ok [.int m] s5 := by
      simp only [evA_cons, evA_nil, ev_var, getS_s, getS_z, some_some, bind_ok']
    have a2 := toW_range1 (c := m) (st := s5) (by omega) (by omega)
    rw [Int.toNat_natCast] at a2
    exact bind_ok a1 a2
  have h0 : NmP p m a3 a4 way fst s5 0 [some (.loc p), some (.int m), some (.loc a3), some (.loc a4), none, some (.str "abcdefghijklmnopqrstuvwxyz"), some (.int way), some (.int fst), none] s5 := ⟨none, none, [], rfl, rfl, hf5, rfl, fun _ _ => rfl⟩
  have hs : ∀ (j : Nat) (x : D) (σ : Sg) (st : Store), (rng 0 m)[j]? = some x → NmP p m a3 a4 way fst s5 j σ st → ∃ σ1, asgT (.nm 4) x σ = some σ1 ∧ (ex R 10000 b nmBody σ1 st).S fun f st2 => ∃ σ2, f = .nx σ2 ∧ NmP p m a3 a4 way fst s5 (j + 1) σ2 st2 := by
    intro i x σ s hx hP
    obtain ⟨o4, o8, acc, rfl, hl, hacc, hnm, hoth⟩ := hP
    have hlen : acc.length = i := by rw [hnm]; unfold nmsL; simp
    obtain ⟨hi, rfl⟩ : i < m ∧ x = .int (i : Nat) := by
      unfold rng at hx
      rw [List.getElem?_map] at hx
      by_cases h : i < m
      · rw [List.getElem?_range h] at hx
        cases hx
        exact ⟨h, congrArg D.int (Int.zero_add _)⟩
      · rw [List.getElem?_eq_none (by simp; omega)] at hx
        cases hx
    refine ⟨_, rfl, ?_⟩
    unfold nmBody
    have bm5 : binD .Mult (.int 5) (.int (i : Int)) = .val (.int (5 * (i : Int))) := bin_mul (mulOk_of (by decide) (by omega))
    have bm3 : binD .Mult (.int 3) (.int (i : Int)) = .val (.int (3 * (i : Int))) := bin_mul (mulOk_of (by decide) (by omega))
    have bo26 : ∀ x : Int, binD .Mod (.int x) (.int 26) = .val (.int (x % 26)) := fun x => bin_mod (by decide)
    have bo31 : ∀ x : Int, binD .Mod (.int x) (.int 31) = .val (.int (x % 31)) := fun x => bin_mod (by decide)
    have bo8 : ∀ x : Int, binD .Mod (.int x) (.int 8) = .val (.int (x % 8)) := fun x => bin_mod (by decide)
    have e26 : ((fst : Int) + 5 * (i : Int)) % 26 = (((fst + 5 * i) % 26 : Nat) : Int) := by omega
    have e31 : ((fst : Int) + 3 * (i : Int)) % 31 = (((fst + 3 * i) % 31 : Nat) : Int) := by omega
    have a26 : (fst + 5 * i) % 26 < 26 := Nat.mod_lt _ (by decide)
    have a31 : (fst + 3 * i) % 31 < 31 := Nat.mod_lt _ (by decide)
    have hal : alpha.cps.toList[(fst + 5 * i) % 26]? = some (97 + (fst + 5 * i) % 26) := (alpha_at _ _).mpr ⟨a26, rfl⟩
    have ixl : ixD (.str "abcdefghijklmnopqrstuvwxyz") (.int (((fst + 5 * i) % 26 : Nat) : Int)) = .val (.str (letS ((fst + 5 * i) % 26))) := ix_str (z := alpha) (by decide +kernel) hal
    obtain ⟨wd, hwd⟩ : ∃ wd, wds[(fst + 3 * i) % 31]? = some wd := ⟨_, List.getElem?_eq_getElem (by rw [wds_len]; exact a31)⟩
    have ixw : ixD (.lst (wds.map .str)) (.int (((fst + 3 * i) % 31 : Nat) : Int)) = .val (.str wd) := ix_nat (by rw [List.getElem?_map, hwd]; rfl)
    have hw : s[a3]? = some (.lst (wds.map .str)) := by rw [hoth _ h34]; exact hw5
    have lt8 : decide ((i : Int) < 8) = true := decide_eq_true (by omega)
    have slz : slD (.str "zyxwvuts") none (some (1 + (i : Int) % 8)) = .val (.str (prefS i)) := sl_str (by decide +kernel)
    have add7 : binD .Add (.str "abcdefg") (.str (letS ((fst + 5 * i) % 26))) = .val (.str (("abcdefg" : Str) ++ letS ((fst + 5 * i) % 26))) := bin_addS (by show 7 + 1 ≤ big; decide +kernel)
    have ft4 : fits [D.str (letS ((fst + 5 * i) % 26)), .str wd, .str (prefS i), .str (("abcdefg" : Str) ++ letS ((fst + 5 * i) % 26))] = true := rfl
    have hnmx : [D.str (letS ((fst + 5 * i) % 26)), .str wd, .str (prefS i), .str (("abcdefg" : Str) ++ letS ((fst + 5 * i) % 26))][way]? = some (.str (nmAt way fst i)) := by
      rcases way with _ | _ | _ | _ | w
      · rfl
      · show some (D.str wd) = some (.str (wds.getD ((fst + 3 * i) % 31) ""))
        rw [List.getD_eq_getElem?_getD, hwd]
        rfl
      · rfl
      · rfl
      · omega
    generalize hnmg : nmAt way fst i = nm at hnmx
    have ik2 : ∀ xs : List D, isK .append (.lst xs) = true := fun _ => rfl
    have hs4l : a4 < s.length := by omega
    have ap : meD b s .append (.loc a4) [.str nm] = .ok (.val .non) (s.set a4 (.lst (acc ++ [.str nm]))) := by
      rw [meD_loc hacc]
      exact meL_append (by omega) (wr_new hacc (fun z => by cases z) (by omega))
    simp only [ev_var, ev_cint, ev_cstr, ev_cbl, ev_cnon, ev_gl, ev_bty, ev_val, ev_tup, ev_lst, ev_dnew, ev_bin, ev_neg, ev_cmp, ev_cmp2, ev_and, ev_or, ev_one, ev_not, ev_ite, ev_ix, ev_sl, ev_rev, ev_call, ev_callk, ev_bi, ev_me, evA_nil, evA_cons, evT_and, evT_or, evT_one, evT_not, evT_ite, evT_nil, evT_cmp, evT_cmp2, evT_cons, evT_val, evP_nil, evP_val, ex_skip, ex_seq, ex_asg, ex_par, ex_six, ex_aug, ex_ex, ex_ret, ex_retN, ex_ife, ex_brk, ex_cont, S_bind, S_ok, some_some, asB_bl, asI_int, getS_z, getS_s, der_non, der_bl, der_int, pder_str, der_tup, der_lst, pder_dct, der_ty, cmp_lt_i, cmp_le_i, cmp_gt_i, cmp_ge_i, cmp_eq_i, cmp_ne_i, cmp_lt_s, cmp_le_s, cmp_eq_s, cmp_ne_s, cmp_eq_l0, cmp_ne_l0, fin_val, fin_dct, len_tup, len_lst, List.getElem?_cons_succ, List.getElem?_cons_zero, List.set_cons_succ, List.set_cons_zero, List.map_cons, List.map_nil, List.replicate, List.cons_append, List.nil_append, if_true, if_false, ite_true, ite_false, Bool.not_true, Bool.not_false, Bool.false_eq_true, Option.map_some, asgT, bm5, bm3, bo26, bo31, bo8, bin_add, e26, e31, ixl, der_locL hw, ixw, lt8, slz, add7, fin_lst ft4, ix_nat hnmx, der_locL hacc, ik2, ap]
    refine ⟨_, rfl, some (.int (i : Int)), some (.str (letS ((fst + 5 * i) % 26))), acc ++ [.str nm], rfl, by rw [List.length_set]; exact hl, List.getElem?_set_self hs4l, ?_, fun j hj => by rw [List.getElem?_set_ne (Ne.symm hj)]; exact hoth j hj⟩
    rw [hnm, ← hnmg]
    unfold nmsL
    rw [List.range_succ, List.map_append, List.map_append]
    rfl
  have z := ex_for_items hw h0 hs
  rw [hrl] at z
  exact z
theorem names_run {k n p q m b : Nat} {st : Store} {Q : D → Store → Prop} (h : Dk n st p q) (hn : n ≤ 100000) (hm : m ≤ 6) (hQ : ∀ (xs : List Str) (s : Store), xs.Nodup → (∀ x ∈ xs, x ∈ NM ∧ x ≠ "void") → xs.length = m → Dk (n + 2) s p q → Sm p q st s → Q (.lst (xs.map .str)) s) :
    (Mi.run tb gs 10000 (k+2) 2 [.loc p, .int (m : Int)] b st).S Q := by
  have hp := h.lt
  refine S_run (fn := f__law_names) rfl rfl ?_
  simp only [f__law_names]
  simp only [ev_var, ev_cint, ev_cstr, ev_cbl, ev_cnon, ev_gl, ev_bty, ev_val, ev_tup, ev_lst, ev_dnew, ev_bin, ev_neg, ev_cmp, ev_cmp2, ev_and, ev_or, ev_one, ev_not, ev_ite, ev_ix, ev_sl, ev_rev, ev_call, ev_callk, ev_bi, ev_me, evA_nil, evA_cons, evT_and, evT_or, evT_one, evT_not, evT_ite, evT_nil, evT_cmp, evT_cmp2, evT_cons, evT_val, evP_nil, evP_val, ex_skip, ex_seq, ex_asg, ex_par, ex_six, ex_aug, ex_ex, ex_ret, ex_retN, ex_ife, ex_brk, ex_cont, S_bind, S_ok, some_some, asB_bl, asI_int, getS_z, getS_s, der_non, der_bl, der_int, pder_str, der_tup, der_lst, pder_dct, der_ty, cmp_lt_i, cmp_le_i, cmp_gt_i, cmp_ge_i, cmp_eq_i, cmp_ne_i, cmp_lt_s, cmp_le_s, cmp_eq_s, cmp_ne_s, cmp_eq_l0, cmp_ne_l0, fin_val, fin_dct, len_tup, len_lst, List.getElem?_cons_succ, List.getElem?_cons_zero, List.set_cons_succ, List.set_cons_zero, List.map_cons, List.map_nil, List.replicate, List.cons_append, List.nil_append, if_true, if_false, ite_true, ite_false, Bool.not_true, Bool.not_false, Bool.false_eq_true, Option.map_some]
  refine draw_run (k := k) h (by omega) (by decide) (by decide) fun way s1 hway hd1 hs1 => ?_
  try simp only [ev_var, ev_cint, ev_cstr, ev_cbl, ev_cnon, ev_gl, ev_bty, ev_val, ev_tup, ev_lst, ev_dnew, ev_bin, ev_neg, ev_cmp, ev_cmp2, ev_and, ev_or, ev_one, ev_not, ev_ite, ev_ix, ev_sl, ev_rev, ev_call, ev_callk, ev_bi, ev_me, evA_nil, evA_cons, evT_and, evT_or, evT_one, evT_not, evT_ite, evT_nil, evT_cmp, evT_cmp2, evT_cons, evT_val, evP_nil, evP_val, ex_skip, ex_seq, ex_asg, ex_par, ex_six, ex_aug, ex_ex, ex_ret, ex_retN, ex_ife, ex_brk, ex_cont, S_bind, S_ok, some_some, asB_bl, asI_int, getS_z, getS_s, der_non, der_bl, der_int, pder_str, der_tup, der_lst, pder_dct, der_ty, cmp_lt_i, cmp_le_i, cmp_gt_i, cmp_ge_i, cmp_eq_i, cmp_ne_i, cmp_lt_s, cmp_le_s, cmp_eq_s, cmp_ne_s, cmp_eq_l0, cmp_ne_l0, fin_val, fin_dct, len_tup, len_lst, List.getElem?_cons_succ, List.getElem?_cons_zero, List.set_cons_succ, List.set_cons_zero, List.map_cons, List.map_nil, List.replicate, List.cons_append, List.nil_append, if_true, if_false, ite_true, ite_false, Bool.not_true, Bool.not_false, Bool.false_eq_true, Option.map_some]
  refine draw_run (k := k) hd1 (by omega) (by decide) (by decide) fun fst s2 hfst hd2 hs2 => ?_
  have hs12 := hs1.trans hs2
  have sp1 : meD st.length s2 .split (.str "case part tag call ask same is not both either yes no and or none one root union take") [.str " "] = .ok (.newL ((Txt.split w1S " ").map .str)) s2 := split_ok (by decide +kernel)
  have ik1 : ∀ x : Str, isK .split (.str x) = true := fun _ => rfl
  have ft1 : fits ((Txt.split w1S " ").map D.str) = true := by decide +kernel
  have sl0 : s2.length = st.length := hs12.1
  generalize hs3 : s2 ++ [O.lst ((Txt.split w1S " ").map .str)] = s3
  have sp2 : meD st.length s3 .split (.str "never number plus least most make test gather else rank tags voids") [.str " "] = .ok (.newL ((Txt.split w2S " ").map .str)) s3 := split_ok (by decide +kernel)
  have ft2 : fits ((Txt.split w2S " ").map D.str) = true := by decide +kernel
  have ft3 : fits ((Txt.split w1S " ").map D.str ++ (Txt.split w2S " ").map .str) = true := by decide +kernel
  have de3 : der s3 (.loc s2.length) = .lst ((Txt.split w1S " ").map .str) := der_locL (by rw [← hs3]; simp)
  have ew : (Txt.split w1S " ").map D.str ++ (Txt.split w2S " ").map .str = wds.map .str := by unfold wds; rw [List.map_append]
  generalize hs4 : s3 ++ [O.lst (wds.map .str)] = s4
  have ft0 : fits [] = true := rfl
  generalize hs5 : s4 ++ [O.lst []] = s5
  have l3 : s3.length = st.length + 1 := by rw [← hs3]; simp [sl0]
  have l4 : s4.length = st.length + 2 := by rw [← hs4]; simp [l3]
  have l5 : s5.length = st.length + 3 := by rw [← hs5]; simp [l4]
  have hget : ∀ i, i < st.length → s5[i]? = s2[i]? := fun i hi => by
    rw [← hs5, ← hs4, ← hs3, List.getElem?_append_left (by simp; omega), List.getElem?_append_left (by simp; omega), List.getElem?_append_left (by omega)]
  have hd5 : Dk (n + 2) s5 p q := by
    obtain ⟨t, c, cells, a1, a2, a3, a4, a5⟩ := hd2
    exact ⟨t, c, cells, by rw [hget p hp.1]; exact a1, by rw [hget q (by omega)]; exact a2, a3, a4, a5⟩
  simp only [ev_var, ev_cint, ev_cstr, ev_cbl, ev_cnon, ev_gl, ev_bty, ev_val, ev_tup, ev_lst, ev_dnew, ev_bin, ev_neg, ev_cmp, ev_cmp2, ev_and, ev_or, ev_one, ev_not, ev_ite, ev_ix, ev_sl, ev_rev, ev_call, ev_callk, ev_bi, ev_me, evA_nil, evA_cons, evT_and, evT_or, evT_one, evT_not, evT_ite, evT_nil, evT_cmp, evT_cmp2, evT_cons, evT_val, evP_nil, evP_val, ex_skip, ex_seq, ex_asg, ex_par, ex_six, ex_aug, ex_ex, ex_ret, ex_retN, ex_ife, ex_brk, ex_cont, S_bind, S_ok, some_some, asB_bl, asI_int, getS_z, getS_s, der_non, der_bl, der_int, pder_str, der_tup, der_lst, pder_dct, der_ty, cmp_lt_i, cmp_le_i, cmp_gt_i, cmp_ge_i, cmp_eq_i, cmp_ne_i, cmp_lt_s, cmp_le_s, cmp_eq_s, cmp_ne_s, cmp_eq_l0, cmp_ne_l0, fin_val, fin_dct, len_tup, len_lst, List.getElem?_cons_succ, List.getElem?_cons_zero, List.set_cons_succ, List.set_cons_zero, List.map_cons, List.map_nil, List.replicate, List.cons_append, List.nil_append, if_true, if_false, ite_true, ite_false, Bool.not_true, Bool.not_false, Bool.false_eq_true, Option.map_some, asgT, setAll, ik1, sp1, fin_lstO ft1, hs3, sp2, fin_lst ft2, de3, bin_addL, ew, fin_lstO (ew ▸ ft3), hs4, fin_lstO ft0, hs5, S_bind]
  have hw5 : s5[s3.length]? = some (.lst (wds.map .str)) := by
    rw [← hs5, List.getElem?_append_left (by rw [← hs4]; simp), ← hs4]
    simp
  have hf5 : s5[s4.length]? = some (.lst []) := by rw [← hs5]; simp
  refine S_mono (names_loop hm hway hw5 hf5 (by omega) (by omega)) fun f s hf => ?_
  obtain ⟨σ2, rfl, o4, o8, acc, rfl, hl, hacc, hnm, hoth⟩ := hf
  obtain ⟨l, hl0⟩ : ∃ l, nmsL way fst m = l := ⟨_, rfl⟩
  have hlm : l.length = m := by rw [← hl0]; unfold nmsL; simp
  have g1 : strsOf acc = some l := by
    rw [hnm, hl0]
    clear hl0 hlm hnm
    induction l with
    | nil => rfl
    | cons a r ih =>
      show (match strsOf (r.map .str) with | some l => some (a :: l) | none => none) = _
      rw [ih]
  have so : biD .sorted [.lst acc] = .newL ((sortS l).map .str) := by
    show (match strsOf acc with | some l => if Nat.blt l.length 64 = true then PR.newL ((sortS l).map .str) else .bad | none => .bad) = _
    rw [g1]
    simp only
    rw [if_pos]
    exact Nat.ble_eq.mpr (by omega)
  have fl : fits ((sortS l).map D.str) = true := fits_of (by rw [List.length_map, sort_len]; have : big = 16777216 := rfl; omega)
  simp only [ev_var, ev_cint, ev_cstr, ev_cbl, ev_cnon, ev_gl, ev_bty, ev_val, ev_tup, ev_lst, ev_dnew, ev_bin, ev_neg, ev_cmp, ev_cmp2, ev_and, ev_or, ev_one, ev_not, ev_ite, ev_ix, ev_sl, ev_rev, ev_call, ev_callk, ev_bi, ev_me, evA_nil, evA_cons, evT_and, evT_or, evT_one, evT_not, evT_ite, evT_nil, evT_cmp, evT_cmp2, evT_cons, evT_val, evP_nil, evP_val, ex_skip, ex_seq, ex_asg, ex_par, ex_six, ex_aug, ex_ex, ex_ret, ex_retN, ex_ife, ex_brk, ex_cont, S_bind, S_ok, some_some, asB_bl, asI_int, getS_z, getS_s, der_non, der_bl, der_int, pder_str, der_tup, der_lst, pder_dct, der_ty, cmp_lt_i, cmp_le_i, cmp_gt_i, cmp_ge_i, cmp_eq_i, cmp_ne_i, cmp_lt_s, cmp_le_s, cmp_eq_s, cmp_ne_s, cmp_eq_l0, cmp_ne_l0, fin_val, fin_dct, len_tup, len_lst, List.getElem?_cons_succ, List.getElem?_cons_zero, List.set_cons_succ, List.set_cons_zero, List.map_cons, List.map_nil, List.replicate, List.cons_append, List.nil_append, if_true, if_false, ite_true, ite_false, Bool.not_true, Bool.not_false, Bool.false_eq_true, Option.map_some, der_locL hacc, so, fin_lst fl]
  have hcl : ∀ c, clo c (.lst ((sortS l).map .str)) = true := fun c => by
    unfold clo
    induction sortS l with
    | nil => unfold cloL; rfl
    | cons a r ih =>
      show (clo c (.str a) && cloL c (r.map .str)) = true
      rw [ih]
      rfl
  refine endF_S (hcl _) ?_
  have hgt : ∀ i, i < st.length → (s.take st.length)[i]? = s2[i]? := fun i hi => by rw [List.getElem?_take_of_lt hi, hoth i (by omega), hget i hi]
  obtain ⟨nd, nm⟩ := nms_ok hway hfst hm
  rw [hl0] at nd nm
  refine hQ _ _ ((sort_perm l).nodup_iff.mpr nd) (fun x hx => nm x (sort_mem l x hx)) (by rw [sort_len]; omega) ?_ ⟨by rw [List.length_take]; omega, fun i h1 h2 => ?_⟩
  · obtain ⟨t, c, cells, a1, a2, a3, a4, a5⟩ := hd2
    exact ⟨t, c, cells, by rw [hgt p hp.1]; exact a1, by rw [hgt q (by omega)]; exact a2, a3, a4, a5⟩
  · by_cases hi : i < st.length
    · rw [hgt i hi]
      exact hs12.2 i h1 h2
    · rw [List.getElem?_eq_none (by rw [List.length_take]; omega), List.getElem?_eq_none (by omega)]
end K01
end
section
open PySem L2 Mi
namespace K01
def tgD (p : Str × Nat) : D := .tup [.str p.1, .int (p.2 : Int)]
/-- drawn tags -/
structure Tags (l : List (Str × Nat)) : Prop where
  nd : (l.map (·.1)).Nodup
  ok : ∀ p ∈ l, p.1 ∈ NM ∧ p.1 ≠ "void" ∧ p.2 ≤ 3
  le : l.length ≤ 6
theorem nm_gd : ∀ x ∈ NM, gd (.str x) = true ∧ shD (.str x) = true ∧ x.length ≤ 8 := by
  have h : (NM.all fun x => gd (.str x) && shD (.str x) && decide (x.length ≤ 8)) = true := by decide +kernel
  intro x hx
  have := List.all_eq_true.mp h x hx
  simp only [Bool.and_eq_true, decide_eq_true_eq] at this
  exact ⟨this.1.1, this.1.2, this.2⟩
theorem Tags.gdT {l : List (Str × Nat)} (h : ∀ p ∈ l, p.1 ∈ NM) : gdL (l.map tgD) = true := gdL_of fun e he => by
  obtain ⟨p, hp, rfl⟩ := List.mem_map.mp he
  show gd (.tup [.str p.1, .int (p.2 : Int)]) = true
  unfold gd gdL gdL gdL
  rw [(nm_gd _ (h p hp)).1]
  rfl
/-- the pairs of tags -/
def prsOf (l : List (Str × Nat)) : List (D × D) := l.map fun p => (.str p.1, .int (p.2 : Int))
theorem prs_eq : ∀ l : List (Str × Nat), pairsD (l.map tgD) = some (prsOf l)
  | [] => rfl
  | p :: r => by
    show (match keyOf (.str p.1), pairsD (r.map tgD) with | some _, some l => some ((D.str p.1, D.int (p.2 : Int)) :: l) | _, _ => none) = _
    rw [prs_eq r]
    rfl
theorem sig_of {l : List (Str × Nat)} (h : l.length ≤ 1000) : Sig (l.map tgD) (prsOf l) := by
  refine ⟨prs_eq l, fun p hp => ?_, by rw [List.length_map]; exact h⟩
  obtain ⟨q, _, rfl⟩ := List.mem_map.mp hp
  exact ⟨⟨_, rfl⟩, _, rfl⟩
/-- the count of a tag, void too -/
theorem cnt_at {l : List (Str × Nat)} (h : Tags l) {x : Str} {c : Nat} (hx : (x, c) ∈ l ∨ (x = "void" ∧ c = 0)) : getK (.str x) (cK (prsOf l)) (cV (prsOf l)) = some (.int (c : Int)) := by
  refine getK_in (ks := []) (vs := []) (l := prsOf l ++ [(.str "void", .int 0)]) rfl (fun a ha => by cases ha) (fun p hp => ?_) ?_ ?_
  · rcases List.mem_append.mp hp with hp | hp
    · obtain ⟨q, _, rfl⟩ := List.mem_map.mp hp
      exact ⟨_, rfl⟩
    · rw [List.mem_singleton.mp hp]
      exact ⟨_, rfl⟩
  · rw [List.map_append]
    refine List.nodup_append.mpr ⟨?_, by simp, fun a ha b hb => ?_⟩
    · have e : (prsOf l).map (·.1) = (l.map (·.1)).map D.str := by
        unfold prsOf
        rw [List.map_map, List.map_map]
        rfl
      rw [e]
      exact List.Pairwise.map D.str (fun a b hab z => hab (by injection z)) h.nd
    · intro z
      obtain ⟨p, hp, rfl⟩ := List.mem_map.mp ha
      obtain ⟨q, hq, rfl⟩ := List.mem_map.mp hp
      rw [List.mem_singleton.mp hb] at z
      injection z with z
      exact (h.ok q hq).2.1 z
  · rcases hx with hx | ⟨rfl, rfl⟩
    · exact List.mem_append_left _ (List.mem_map.mpr ⟨(x, c), hx, rfl⟩)
    · exact List.mem_append_right _ List.mem_cons_self
def TgP (n p q : Nat) (xs : List Str) (s3 : Store) (i : Nat) (acc : List D) (s : Store) : Prop := s.length = s3.length + 1 ∧ s[s3.length]? = some (.lst acc) ∧ (∃ l : List (Str × Nat), acc = l.map tgD ∧ l.map (·.1) = xs.take i ∧ ∀ p ∈ l, p.2 ≤ 3) ∧ Dk (n + i) s p q ∧ ∀ j : Nat, j ≠ p → j ≠ q → j ≠ s3.length → s[j]? = s3[j]?
theorem tags_lc {k n p q m b : Nat} {xs : List Str} {s3 : Store} (hd : Dk n s3 p q) (hn : n ≤ 100000) (hl : xs.length = m) (hm : m ≤ 6) :
    (ev ⟨Mi.run tb gs 10000 (k + 2), gs⟩ b (.lc .seq (.cons (.var 1) .nil) (.nm 2) .nil (.tup (.cons (.var 2) (.cons (.call "_law_pick" 3 (.cons (.var 0) (.cons (.lst false (.cons (.cint 0) (.cons (.cint 0) (.cons (.cint 1) (.cons (.cint 2) (.cons (.cint 2) (.cons (.cint 3) .nil))))))) .nil))) .nil))) [2]) [some (.loc p), some (.lst (xs.map .str)), none] s3).S fun d s => d = .loc s3.length ∧ ∃ acc, TgP n p q xs s3 m acc s := by
  have hp := hd.lt
  have hw : ((evA ⟨Mi.run tb gs 10000 (k + 2), gs⟩ b (.cons (.var 1) .nil) [some (.loc p), some (.lst (xs.map .str)), none] s3).bind fun ds st0 => toW .seq ds st0) = .ok (.items (xs.map .str)) s3 := rfl
  have h0 : TgP n p q xs s3 0 [] (s3 ++ [O.lst []]) := by
    refine ⟨by simp, by simp, ⟨[], rfl, rfl, fun _ h => by cases h⟩, ?_, fun j _ _ h3 => ?_⟩
    · obtain ⟨t, c, cells, a1, a2, a3, a4, a5⟩ := hd
      exact ⟨t, c, cells, by rw [List.getElem?_append_left hp.1]; exact a1, by rw [List.getElem?_append_left (by omega)]; exact a2, a3, a4, a5⟩
    · by_cases hj : j < s3.length
      · rw [List.getElem?_append_left hj]
      · rw [List.getElem?_eq_none (by simp; omega), List.getElem?_eq_none (by omega)]
  have hs : ∀ (j : Nat) (x : D) (acc : List D) (s : Store), (xs.map D.str)[j]? = some x → TgP n p q xs s3 j acc s → ∃ σ', asgT (.nm 2) x (wipeD [some (.loc p), some (.lst (xs.map .str)), none] [2]) = some σ' ∧ (ev ⟨Mi.run tb gs 10000 (k + 2), gs⟩ b (.tup (.cons (.var 2) (.cons (.call "_law_pick" 3 (.cons (.var 0) (.cons (.lst false (.cons (.cint 0) (.cons (.cint 0) (.cons (.cint 1) (.cons (.cint 2) (.cons (.cint 2) (.cons (.cint 3) .nil))))))) .nil))) .nil))) σ' s).S fun y s2 => s2[s3.length]? = some (.lst acc) ∧ acc.length < 16777216 ∧ TgP n p q xs s3 (j + 1) (acc ++ [y]) (s2.set s3.length (.lst (acc ++ [y]))) := by
    intro j x acc s hj hP
    obtain ⟨h1, h2, ⟨l, h3, h4, h4'⟩, h5, h6⟩ := hP
    rw [List.getElem?_map] at hj
    cases hxj : xs[j]? with
    | none => rw [hxj] at hj; cases hj
    | some nm =>
    rw [hxj] at hj
    cases hj
    have hjm : j < m := by rw [← hl]; exact (List.getElem?_eq_some_iff.mp hxj).1
    have hll : l.length = j := by
      have := congrArg List.length h4
      rw [List.length_map, List.length_take] at this
      omega
    have hal : acc.length = j := by rw [h3, List.length_map, hll]
    refine ⟨[some (.loc p), some (.lst (xs.map .str)), some (.str nm)], rfl, ?_⟩
    have f6 : fits [D.int 0, .int 0, .int 1, .int 2, .int 2, .int 3] = true := rfl
    simp only [ev_var, ev_cint, ev_cstr, ev_cbl, ev_cnon, ev_gl, ev_bty, ev_val, ev_tup, ev_lst, ev_dnew, ev_bin, ev_neg, ev_cmp, ev_cmp2, ev_and, ev_or, ev_one, ev_not, ev_ite, ev_ix, ev_sl, ev_rev, ev_call, ev_callk, ev_bi, ev_me, evA_nil, evA_cons, evT_and, evT_or, evT_one, evT_not, evT_ite, evT_nil, evT_cmp, evT_cmp2, evT_cons, evT_val, evP_nil, evP_val, ex_skip, ex_seq, ex_asg, ex_par, ex_six, ex_aug, ex_ex, ex_ret, ex_retN, ex_ife, ex_brk, ex_cont, S_bind, S_ok, some_some, asB_bl, asI_int, getS_z, getS_s, der_non, der_bl, der_int, pder_str, der_tup, der_lst, pder_dct, der_ty, cmp_lt_i, cmp_le_i, cmp_gt_i, cmp_ge_i, cmp_eq_i, cmp_ne_i, cmp_lt_s, cmp_le_s, cmp_eq_s, cmp_ne_s, cmp_eq_l0, cmp_ne_l0, fin_val, fin_dct, len_tup, len_lst, List.getElem?_cons_succ, List.getElem?_cons_zero, List.set_cons_succ, List.set_cons_zero, List.map_cons, List.map_nil, List.replicate, List.cons_append, List.nil_append, if_true, if_false, ite_true, ite_false, Bool.not_true, Bool.not_false, Bool.false_eq_true, Option.map_some, fin_lst f6]
    refine pick_run (k := k) (xs := [.int 0, .int 0, .int 1, .int 2, .int 2, .int 3]) h5 (by omega) (.inl rfl) (by decide) (by decide) (fun x hx => gd_clo _ _ (gdL_mem (ds := [.int 0, .int 0, .int 1, .int 2, .int 2, .int 3]) rfl hx)) fun y s2 hy hd2 hs2 => ?_
    have f2 : fits [D.str nm, y] = true := rfl
    rw [if_pos f2]
    have hg2 : s2[s3.length]? = some (.lst acc) := by rw [hs2.2 _ (by omega) (by omega)]; exact h2
    have hlt : s3.length < s2.length := (List.getElem?_eq_some_iff.mp hg2).1
    have : ∃ c : Nat, c ≤ 3 ∧ y = .int (c : Int) := by
      simp only [List.mem_cons, List.not_mem_nil, or_false] at hy
      rcases hy with rfl | rfl | rfl | rfl | rfl | rfl
      · exact ⟨0, by decide, rfl⟩
      · exact ⟨0, by decide, rfl⟩
      · exact ⟨1, by decide, rfl⟩
      · exact ⟨2, by decide, rfl⟩
      · exact ⟨2, by decide, rfl⟩
      · exact ⟨3, by decide, rfl⟩
    obtain ⟨c, hc, rfl⟩ := this
    refine ⟨hg2, by omega, by rw [List.length_set, hs2.1]; exact h1, List.getElem?_set_self hlt, ⟨l ++ [(nm, c)], ?_, ?_, fun e he => ?_⟩, ?_, fun i i1 i2 i3 => ?_⟩
    · rw [h3, List.map_append]
      rfl
    · rw [List.map_append, h4, List.take_add_one, hxj]
      rfl
    · rcases List.mem_append.mp he with he | he
      · exact h4' e he
      · rw [List.mem_singleton.mp he]
        exact hc
    · obtain ⟨t, c, cells, a1, a2, a3, a4, a5⟩ := hd2
      exact ⟨t, c, cells, by rw [List.getElem?_set_ne (by omega)]; exact a1, by rw [List.getElem?_set_ne (by omega)]; exact a2, a3, by omega, a5⟩
    · rw [List.getElem?_set_ne (Ne.symm i3), hs2.2 i i1 i2]
      exact h6 i i1 i2 i3
  have z := S_lcI hw h0 hs
  rw [List.length_map, hl] at z
  exact z
theorem tags_run {k n p q b : Nat} {st : Store} {Q : D → Store → Prop} (h : Dk n st p q) (hn : n ≤ 10000) (hQ : ∀ (l : List (Str × Nat)) (s : Store), Tags l → 1 ≤ l.length → Dk (n + 9) s p q → Sm p q st s → Q (.tup (l.map tgD)) s) :
    (Mi.run tb gs 10000 (k+3) 4 [.loc p] b st).S Q := by
  have hp := h.lt
  refine S_run (fn := f__law_tags) rfl rfl ?_
  simp only [f__law_tags]
  simp only [ev_var, ev_cint, ev_cstr, ev_cbl, ev_cnon, ev_gl, ev_bty, ev_val, ev_tup, ev_lst, ev_dnew, ev_bin, ev_neg, ev_cmp, ev_cmp2, ev_and, ev_or, ev_one, ev_not, ev_ite, ev_ix, ev_sl, ev_rev, ev_call, ev_callk, ev_bi, ev_me, evA_nil, evA_cons, evT_and, evT_or, evT_one, evT_not, evT_ite, evT_nil, evT_cmp, evT_cmp2, evT_cons, evT_val, evP_nil, evP_val, ex_skip, ex_seq, ex_asg, ex_par, ex_six, ex_aug, ex_ex, ex_ret, ex_retN, ex_ife, ex_brk, ex_cont, S_bind, S_ok, some_some, asB_bl, asI_int, getS_z, getS_s, der_non, der_bl, der_int, pder_str, der_tup, der_lst, pder_dct, der_ty, cmp_lt_i, cmp_le_i, cmp_gt_i, cmp_ge_i, cmp_eq_i, cmp_ne_i, cmp_lt_s, cmp_le_s, cmp_eq_s, cmp_ne_s, cmp_eq_l0, cmp_ne_l0, fin_val, fin_dct, len_tup, len_lst, List.getElem?_cons_succ, List.getElem?_cons_zero, List.set_cons_succ, List.set_cons_zero, List.map_cons, List.map_nil, List.replicate, List.cons_append, List.nil_append, if_true, if_false, ite_true, ite_false, Bool.not_true, Bool.not_false, Bool.false_eq_true, Option.map_some]
  refine draw_run (lim := 6) (k := k + 1) h (by omega) (by decide) (by decide) fun j s1 hj hd1 hs1 => ?_
  have e1 : binD .Add (.int 1) (.int (j : Int)) = .val (.int ((1 + j : Nat) : Int)) := by
    rw [bin_add]
    rfl
  simp only [ev_var, ev_cint, ev_cstr, ev_cbl, ev_cnon, ev_gl, ev_bty, ev_val, ev_tup, ev_lst, ev_dnew, ev_bin, ev_neg, ev_cmp, ev_cmp2, ev_and, ev_or, ev_one, ev_not, ev_ite, ev_ix, ev_sl, ev_rev, ev_call, ev_callk, ev_bi, ev_me, evA_nil, evA_cons, evT_and, evT_or, evT_one, evT_not, evT_ite, evT_nil, evT_cmp, evT_cmp2, evT_cons, evT_val, evP_nil, evP_val, ex_skip, ex_seq, ex_asg, ex_par, ex_six, ex_aug, ex_ex, ex_ret, ex_retN, ex_ife, ex_brk, ex_cont, S_bind, S_ok, some_some, asB_bl, asI_int, getS_z, getS_s, der_non, der_bl, der_int, pder_str, der_tup, der_lst, pder_dct, der_ty, cmp_lt_i, cmp_le_i, cmp_gt_i, cmp_ge_i, cmp_eq_i, cmp_ne_i, cmp_lt_s, cmp_le_s, cmp_eq_s, cmp_ne_s, cmp_eq_l0, cmp_ne_l0, fin_val, fin_dct, len_tup, len_lst, List.getElem?_cons_succ, List.getElem?_cons_zero, List.set_cons_succ, List.set_cons_zero, List.map_cons, List.map_nil, List.replicate, List.cons_append, List.nil_append, if_true, if_false, ite_true, ite_false, Bool.not_true, Bool.not_false, Bool.false_eq_true, Option.map_some, e1]
  refine names_run (k := k) (m := 1 + j) hd1 (by omega) (by omega) fun xs s2 hnd hx hl hd2 hs2 => ?_
  simp only [ev_var, ev_cint, ev_cstr, ev_cbl, ev_cnon, ev_gl, ev_bty, ev_val, ev_tup, ev_lst, ev_dnew, ev_bin, ev_neg, ev_cmp, ev_cmp2, ev_and, ev_or, ev_one, ev_not, ev_ite, ev_ix, ev_sl, ev_rev, ev_call, ev_callk, ev_bi, ev_me, evA_nil, evA_cons, evT_and, evT_or, evT_one, evT_not, evT_ite, evT_nil, evT_cmp, evT_cmp2, evT_cons, evT_val, evP_nil, evP_val, ex_skip, ex_seq, ex_asg, ex_par, ex_six, ex_aug, ex_ex, ex_ret, ex_retN, ex_ife, ex_brk, ex_cont, S_bind, S_ok, some_some, asB_bl, asI_int, getS_z, getS_s, der_non, der_bl, der_int, pder_str, der_tup, der_lst, pder_dct, der_ty, cmp_lt_i, cmp_le_i, cmp_gt_i, cmp_ge_i, cmp_eq_i, cmp_ne_i, cmp_lt_s, cmp_le_s, cmp_eq_s, cmp_ne_s, cmp_eq_l0, cmp_ne_l0, fin_val, fin_dct, len_tup, len_lst, List.getElem?_cons_succ, List.getElem?_cons_zero, List.set_cons_succ, List.set_cons_zero, List.map_cons, List.map_nil, List.replicate, List.cons_append, List.nil_append, if_true, if_false, ite_true, ite_false, Bool.not_true, Bool.not_false, Bool.false_eq_true, Option.map_some, asgT]
  refine S_mono (tags_lc (k := k) (m := 1 + j) hd2 (by omega) hl (by omega)) fun d s hds => ?_
  obtain ⟨rfl, acc, h1, h2, ⟨l, rfl, h4, h4'⟩, h5, h6⟩ := hds
  have hlm : l.map (·.1) = xs := by rw [h4, ← hl, List.take_length]
  have hlen : l.length = 1 + j := by rw [← hl, ← hlm, List.length_map]
  have hT : Tags l := ⟨by rw [hlm]; exact hnd, fun p hp => by
    have := hx p.1 (by rw [← hlm]; exact List.mem_map.mpr ⟨p, hp, rfl⟩)
    exact ⟨this.1, this.2, h4' p hp⟩, by omega⟩
  have hs12 := hs1.trans hs2
  have e2 : biD .tuple [.lst (l.map tgD)] = .val (.tup (l.map tgD)) := rfl
  simp only [ev_var, ev_cint, ev_cstr, ev_cbl, ev_cnon, ev_gl, ev_bty, ev_val, ev_tup, ev_lst, ev_dnew, ev_bin, ev_neg, ev_cmp, ev_cmp2, ev_and, ev_or, ev_one, ev_not, ev_ite, ev_ix, ev_sl, ev_rev, ev_call, ev_callk, ev_bi, ev_me, evA_nil, evA_cons, evT_and, evT_or, evT_one, evT_not, evT_ite, evT_nil, evT_cmp, evT_cmp2, evT_cons, evT_val, evP_nil, evP_val, ex_skip, ex_seq, ex_asg, ex_par, ex_six, ex_aug, ex_ex, ex_ret, ex_retN, ex_ife, ex_brk, ex_cont, S_bind, S_ok, some_some, asB_bl, asI_int, getS_z, getS_s, der_non, der_bl, der_int, pder_str, der_tup, der_lst, pder_dct, der_ty, cmp_lt_i, cmp_le_i, cmp_gt_i, cmp_ge_i, cmp_eq_i, cmp_ne_i, cmp_lt_s, cmp_le_s, cmp_eq_s, cmp_ne_s, cmp_eq_l0, cmp_ne_l0, fin_val, fin_dct, len_tup, len_lst, List.getElem?_cons_succ, List.getElem?_cons_zero, List.set_cons_succ, List.set_cons_zero, List.map_cons, List.map_nil, List.replicate, List.cons_append, List.nil_append, if_true, if_false, ite_true, ite_false, Bool.not_true, Bool.not_false, Bool.false_eq_true, Option.map_some, der_locL h2, e2]
  refine endF_S (gd_clo _ _ (by unfold gd; exact Tags.gdT fun p hp => (hT.ok p hp).1)) ?_
  have hsl : s2.length = st.length := hs12.1
  refine hQ l _ hT (by omega) ((h5.take (by omega)).mono (by omega)) ⟨by rw [List.length_take]; omega, fun i i1 i2 => ?_⟩
  by_cases hi : i < st.length
  · rw [List.getElem?_take_of_lt hi, h6 i i1 i2 (by omega)]
    exact hs12.2 i i1 i2
  · rw [List.getElem?_eq_none (by rw [List.length_take]; omega), List.getElem?_eq_none (by omega)]
end K01
end
section
open PySem L2 Mi
namespace K01
theorem pickt_run {k n p q b : Nat} {st : Store} {xs : List D} {Q : D → Store → Prop} (h : Dk n st p q) (hn : n ≤ 1000000) (h0 : 0 < xs.length) (h1 : xs.length ≤ 1000000) (hg : ∀ x ∈ xs, clo st.length x = true)
    (hQ : ∀ (x : D) (s : Store), x ∈ xs → Dk (n + 1) s p q → Sm p q st s → Q x s) : (Mi.run tb gs 10000 (k+2) 3 [.loc p, .tup xs] b st).S Q := pickT_run (ad := 37) (ml := 69621) rfl (by decide) (by decide) (by decide) (by decide) rfl h hn h0 h1 hg hQ
def nD (i : Nat) : D := .int (i : Int)
def rwD (r : Str × List Nat) : D := .tup [.str r.1, .tup (r.2.map nD)]
/-- a row by these tags, in a sheet of n rows -/
def RowOk (l : List (Str × Nat)) (n : Nat) (r : Str × List Nat) : Prop := ((r.1, r.2.length) ∈ l ∨ (r.1 = "void" ∧ r.2.length = 0)) ∧ ∀ i ∈ r.2, i < n
structure Rows (l : List (Str × Nat)) (rs : List (Str × List Nat)) : Prop where
  pos : 1 ≤ rs.length
  le : rs.length ≤ 24
  ok : ∀ r ∈ rs, RowOk l rs.length r
theorem RowOk.nm {l : List (Str × Nat)} {n : Nat} {r : Str × List Nat} (hl : Tags l) (h : RowOk l n r) : r.1 ∈ NM ∧ r.2.length ≤ 3 := by
  rcases h.1 with h | ⟨h, h2⟩
  · exact ⟨(hl.ok _ h).1, (hl.ok _ h).2.2⟩
  · rw [h, h2]
    exact ⟨nm_void, by decide⟩
theorem nD_gd : ∀ l : List Nat, gdL (l.map nD) = true := fun l => gdL_of fun d hd => by
  obtain ⟨i, _, rfl⟩ := List.mem_map.mp hd
  rfl
theorem row_gd {r : Str × List Nat} (h : r.1 ∈ NM) : gd (rwD r) = true := by
  show gd (.tup [.str r.1, .tup (r.2.map nD)]) = true
  unfold gd gdL gdL gdL
  rw [(nm_gd _ h).1]
  unfold gd
  rw [nD_gd]
  rfl
theorem rows_gd {l : List (Str × Nat)} {n : Nat} (hl : Tags l) {rs : List (Str × List Nat)} (h : ∀ r ∈ rs, RowOk l n r) : gdL (rs.map rwD) = true := gdL_of fun d hd => by
  obtain ⟨r, hr, rfl⟩ := List.mem_map.mp hd
  exact row_gd ((h r hr).nm hl).1
/-- such rows are a sheet -/
theorem rows_sheet {l : List (Str × Nat)} {rs : List (Str × List Nat)} (hl : Tags l) (h : Rows l rs) : shB (cK (prsOf l)) (cV (prsOf l)) (.tup (rs.map rwD)) = true := by
  show (!(rs.map rwD).isEmpty && (rs.map rwD).all (rowB (cK (prsOf l)) (cV (prsOf l)) ((rs.map rwD).length : Int))) = true
  rw [Bool.and_eq_true]
  constructor
  · rw [List.isEmpty_map]
    have := h.pos
    cases rs with
    | nil => simp at this
    | cons _ _ => rfl
  · rw [List.length_map, List.all_eq_true]
    intro d hd
    obtain ⟨r, hr, rfl⟩ := List.mem_map.mp hd
    obtain ⟨h1, h2⟩ := h.ok r hr
    show (match getK (.str r.1) (cK (prsOf l)) (cV (prsOf l)) with | some (.int c) => decide (((r.2.map nD).length : Int) = c) && (r.2.map nD).all (ixB rs.length) | _ => false) = true
    rw [cnt_at hl h1, Bool.and_eq_true, List.length_map]
    refine ⟨decide_eq_true rfl, List.all_eq_true.mpr fun d hd => ?_⟩
    obtain ⟨i, hi, rfl⟩ := List.mem_map.mp hd
    have := h2 i hi
    show (decide (0 ≤ (i : Int)) && decide ((i : Int) < (rs.length : Int))) = true
    rw [Bool.and_eq_true]
    exact ⟨decide_eq_true (by omega), decide_eq_true (by omega)⟩
/-- some numbers are drawn -/
def DrP (n p q lim : Nat) (s0 : Store) (i : Nat) (acc : List D) (s : Store) : Prop := s.length = s0.length + 1 ∧ s[s0.length]? = some (.lst acc) ∧ (∃ is : List Nat, acc = is.map nD ∧ is.length = i ∧ ∀ x ∈ is, x < lim) ∧ Dk (n + i) s p q ∧ ∀ j : Nat, j ≠ p → j ≠ q → j ≠ s0.length → s[j]? = s0[j]?
theorem draws_lc {k n p q m lim b : Nat} {s0 : Store} {o1 o2 o4 o5 o6 o7 o8 o9 o11 : Option D} (hd : Dk n s0 p q) (hn : n ≤ 100000) (hm : m ≤ 1000) (h0 : 0 < lim) (h1 : lim ≤ 1000000) :
    (ev ⟨Mi.run tb gs 10000 (k + 1), gs⟩ b (.lc .range1 (.cons (.var 10) .nil) (.nm 11) .nil (.call "_law_draw" 1 (.cons (.var 0) (.cons (.var 3) .nil))) [11]) [some (.loc p), o1, o2, some (.int (lim : Int)), o4, o5, o6, o7, o8, o9, some (.int (m : Int)), o11] s0).S fun d s => d = .loc s0.length ∧ ∃ acc, DrP n p q lim s0 m acc s := by
  have hp := hd.lt
  have hw : ((evA ⟨Mi.run tb gs 10000 (k + 1), gs⟩ b (.cons (.var 10) .nil) [some (.loc p), o1, o2, some (.int (lim : Int)), o4, o5, o6, o7, o8, o9, some (.int (m : Int)), o11] s0).bind fun ds st0 => toW .range1 ds st0) = .ok (.items (rng 0 m)) s0 := by
    have a1 : evA ⟨Mi.run tb gs 10000 (k + 1), gs⟩ b (.cons (.var 10) .nil) [some (.loc p), o1, o2, some (.int (lim : Int)), o4, o5, o6, o7, o8, o9, some (.int (m : Int)), o11] s0 = .ok [.int m] s0 := by
      simp only [evA_cons, evA_nil, ev_var, getS_s, getS_z, some_some, bind_ok']
    have a2 := toW_range1 (c := m) (st := s0) (by omega) (by omega)
    rw [Int.toNat_natCast] at a2
    exact bind_ok a1 a2
  have hb : DrP n p q lim s0 0 [] (s0 ++ [O.lst []]) := ⟨by simp, by simp, ⟨[], rfl, rfl, fun _ h => by cases h⟩, hd.app _, fun j _ _ h3 => by
    by_cases hj : j < s0.length
    · rw [List.getElem?_append_left hj]
    · rw [List.getElem?_eq_none (by simp; omega), List.getElem?_eq_none (by omega)]⟩
  have z := S_lcI (R := ⟨Mi.run tb gs 10000 (k + 1), gs⟩) (b := b) (t := .nm 11) (e := .call "_law_draw" 1 (.cons (.var 0) (.cons (.var 3) .nil))) (vs := [11]) hw hb fun j x acc s hj hP => ?_
  · rw [rng_len] at z
    exact z
  obtain ⟨g1, g2, ⟨is, rfl, g4, g5⟩, g6, g7⟩ := hP
  obtain ⟨hjm, rfl⟩ := rng_getp hj
  refine ⟨_, rfl, ?_⟩
  simp only [ev_var, ev_cint, ev_cstr, ev_cbl, ev_cnon, ev_gl, ev_bty, ev_val, ev_tup, ev_lst, ev_dnew, ev_bin, ev_neg, ev_cmp, ev_cmp2, ev_and, ev_or, ev_one, ev_not, ev_ite, ev_ix, ev_sl, ev_rev, ev_call, ev_callk, ev_bi, ev_me, evA_nil, evA_cons, evT_and, evT_or, evT_one, evT_not, evT_ite, evT_nil, evT_cmp, evT_cmp2, evT_cons, evT_val, evP_nil, evP_val, ex_skip, ex_seq, ex_asg, ex_par, ex_six, ex_aug, ex_ex, ex_ret, ex_retN, ex_ife, ex_brk, ex_cont, S_bind, S_ok, some_some, asB_bl, asI_int, getS_z, getS_s, der_non, der_bl, der_int, pder_str, der_tup, der_lst, pder_dct, der_ty, cmp_lt_i, cmp_le_i, cmp_gt_i, cmp_ge_i, cmp_eq_i, cmp_ne_i, cmp_lt_s, cmp_le_s, cmp_eq_s, cmp_ne_s, cmp_eq_l0, cmp_ne_l0, fin_val, fin_dct, len_tup, len_lst, List.getElem?_cons_succ, List.getElem?_cons_zero, List.set_cons_succ, List.set_cons_zero, List.map_cons, List.map_nil, List.replicate, List.cons_append, List.nil_append, if_true, if_false, ite_true, ite_false, Bool.not_true, Bool.not_false, Bool.false_eq_true, Option.map_some]
  refine draw_run (k := k) g6 (by omega) h0 h1 fun y s2 hy hd2 hs2 => ?_
  have hg2 : s2[s0.length]? = some (.lst (is.map nD)) := by rw [hs2.2 _ (by omega) (by omega)]; exact g2
  have hlt : s0.length < s2.length := (List.getElem?_eq_some_iff.mp hg2).1
  refine ⟨hg2, by rw [List.length_map]; omega, by rw [List.length_set, hs2.1]; exact g1, List.getElem?_set_self hlt, ⟨is ++ [y], by rw [List.map_append]; rfl, by rw [List.length_append, g4]; rfl, fun x hx => ?_⟩, hd2.set (by omega) (by omega), fun i i1 i2 i3 => ?_⟩
  · rcases List.mem_append.mp hx with hx | hx
    · exact g5 x hx
    · rw [List.mem_singleton.mp hx]; exact hy
  · rw [List.getElem?_set_ne (Ne.symm i3), hs2.2 i i1 i2]
    exact g7 i i1 i2 i3
end K01
end
section
open PySem L2 Mi
namespace K01
def rowBody : S := (.seq (.asg (.tp (.cons (.nm 9) (.cons (.nm 10) .nil))) (.call "_law_pick" 3 (.cons (.var 0) (.cons (.ite (.cmp .Eq (.call "_law_draw" 1 (.cons (.var 0) (.cons (.cint 3) .nil))) (.cint 0)) (.var 5) (.var 1)) .nil)))) (.seq (.ex (.me .append false (.var 7) (.cons (.tup (.cons (.var 9) (.cons (.bi .tuple false (.cons (.lc .range1 (.cons (.var 10) .nil) (.nm 11) .nil (.call "_law_draw" 1 (.cons (.var 0) (.cons (.var 3) .nil))) [11]) .nil)) .nil))) .nil))) .skip))
/-- tags and void -/
def sm (l : List (Str × Nat)) : List D := l.map tgD ++ [.tup [.str "void", .int 0]]
theorem sm_mem {l : List (Str × Nat)} (hl : Tags l) {x : D} (h : x ∈ sm l) : ∃ (nm : Str) (c : Nat), x = .tup [.str nm, .int (c : Int)] ∧ ((nm, c) ∈ l ∨ (nm = "void" ∧ c = 0)) ∧ c ≤ 3 ∧ nm ∈ NM := by
  rcases List.mem_append.mp h with h | h
  · obtain ⟨p, hp, rfl⟩ := List.mem_map.mp h
    exact ⟨p.1, p.2, rfl, .inl hp, (hl.ok p hp).2.2, (hl.ok p hp).1⟩
  · rw [List.mem_singleton.mp h]
    exact ⟨"void", 0, rfl, .inr ⟨rfl, rfl⟩, by decide, nm_void⟩
theorem sm_gd {l : List (Str × Nat)} (hl : Tags l) : gdL (sm l) = true := gdL_of fun d hd => by
  obtain ⟨nm, c, rfl, _, _, hn⟩ := sm_mem hl hd
  unfold gd gdL gdL gdL
  rw [(nm_gd _ hn).1]
  rfl
def RwP (l : List (Str × Nat)) (n p q cnt aw as af way : Nat) (s5 : Store) (i : Nat) (σ : Sg) (s : Store) : Prop := ∃ (o4 o8 o9 o10 o11 : Option D) (rs : List (Str × List Nat)),
  σ = [some (.loc p), some (.tup (l.map tgD)), some (.loc aw), some (.int (cnt : Int)), o4, some (.loc as), some (.int (way : Int)), some (.loc af), o8, o9, o10, o11] ∧
  s5.length ≤ s.length ∧ s[af]? = some (.lst (rs.map rwD)) ∧ rs.length = i ∧ (∀ r ∈ rs, RowOk l cnt r) ∧ Dk (n + 5 * i) s p q ∧ ∀ j : Nat, j < s5.length → j ≠ p → j ≠ q → j ≠ af → s[j]? = s5[j]?
theorem rows_loop5 {k n p q cnt aw as af way b : Nat} {l : List (Str × Nat)} {s5 : Store} {o8 o9 o10 o11 : Option D} (hl : Tags l) (hl1 : 1 ≤ l.length) (hd : Dk n s5 p q) (hn : n ≤ 10000) (hc0 : 1 ≤ cnt) (hc : cnt ≤ 24) (has : s5[as]? = some (.lst (sm l))) (haf : s5[af]? = some (.lst [])) (hpa : p < as) (hpf : p < af) (hsf : as ≠ af) (hb : b ≤ af) :
    (ex ⟨Mi.run tb gs 10000 (k + 2), gs⟩ 10000 b (.for_ .range1 (.cons (.var 3) .nil) (.nm 4) rowBody) [some (.loc p), some (.tup (l.map tgD)), some (.loc aw), some (.int (cnt : Int)), none, some (.loc as), some (.int (way : Int)), some (.loc af), o8, o9, o10, o11] s5).S fun f s => ∃ σ2, f = .nx σ2 ∧ RwP l n p q cnt aw as af way s5 cnt σ2 s := by
  have hw : ((evA ⟨Mi.run tb gs 10000 (k + 2), gs⟩ b (.cons (.var 3) .nil) [some (.loc p), some (.tup (l.map tgD)), some (.loc aw), some (.int (cnt : Int)), none, some (.loc as), some (.int (way : Int)), some (.loc af), o8, o9, o10, o11] s5).bind fun ds st0 => toW .range1 ds st0) = .ok (.items (rng 0 cnt)) s5 := by
    have a1 : evA ⟨Mi.run tb gs 10000 (k + 2), gs⟩ b (.cons (.var 3) .nil) [some (.loc p), some (.tup (l.map tgD)), some (.loc aw), some (.int (cnt : Int)), none, some (.loc as), some (.int (way : Int)), some (.loc af), o8, o9, o10, o11] s5 = .ok [.int cnt] s5 := by
      simp only [evA_cons, evA_nil, ev_var, getS_s, getS_z, some_some, bind_ok']
    have a2 := toW_range1 (c := cnt) (st := s5) (by omega) (by omega)
    rw [Int.toNat_natCast] at a2
    exact bind_ok a1 a2
  have hlt5 := hd.lt
  have hasl : as < s5.length := (List.getElem?_eq_some_iff.mp has).1
  have hafl : af < s5.length := (List.getElem?_eq_some_iff.mp haf).1
  have z := ex_for_items (R := ⟨Mi.run tb gs 10000 (k + 2), gs⟩) (fu := 10000) (b := b) (bd := rowBody) (t := .nm 4) (P := RwP l n p q cnt aw as af way s5) hw ⟨none, o8, o9, o10, o11, [], rfl, Nat.le_refl _, haf, rfl, fun _ h => (by cases h), hd, fun _ _ _ _ _ => rfl⟩ fun j x σ s hj hP => ?_
  · rw [rng_len] at z
    exact z
  obtain ⟨o4, o8, o9, o10, o11, rs, rfl, g1, g2, g3, g4, g5, g6⟩ := hP
  obtain ⟨hjm, rfl⟩ := rng_getp hj
  refine ⟨_, rfl, ?_⟩
  unfold rowBody
  -- behind the pick
  have fin : ∀ (nm : Str) (c : Nat) (s' : Store), ((nm, c) ∈ l ∨ (nm = "void" ∧ c = 0)) → c ≤ 3 → nm ∈ NM → Dk (n + 5 * j + 2) s' p q → Sm p q s s' →
      (ex ⟨Mi.run tb gs 10000 (k + 2), gs⟩ 10000 b (.seq (.ex (.me .append false (.var 7) (.cons (.tup (.cons (.var 9) (.cons (.bi .tuple false (.cons (.lc .range1 (.cons (.var 10) .nil) (.nm 11) .nil (.call "_law_draw" 1 (.cons (.var 0) (.cons (.var 3) .nil))) [11]) .nil)) .nil))) .nil))) .skip) [some (.loc p), some (.tup (l.map tgD)), some (.loc aw), some (.int (cnt : Int)), some (.int (0 + (j : Int))), some (.loc as), some (.int (way : Int)), some (.loc af), o8, some (.str nm), some (.int (c : Int)), o11] s').S fun f st2 => ∃ σ2, f = .nx σ2 ∧ RwP l n p q cnt aw as af way s5 (j + 1) σ2 st2 := by
    intro nm c s' hnc hc3 hnm hd' hs'
    have haf' : s'[af]? = some (.lst (rs.map rwD)) := by rw [hs'.2 af (by omega) (by omega)]; exact g2
    have ka : ∀ xs : List D, isK .append (.lst xs) = true := fun _ => rfl
    simp only [ev_var, ev_cint, ev_cstr, ev_cbl, ev_cnon, ev_gl, ev_bty, ev_val, ev_tup, ev_lst, ev_dnew, ev_bin, ev_neg, ev_cmp, ev_cmp2, ev_and, ev_or, ev_one, ev_not, ev_ite, ev_ix, ev_sl, ev_rev, ev_call, ev_callk, ev_bi, ev_me, evA_nil, evA_cons, evT_and, evT_or, evT_one, evT_not, evT_ite, evT_nil, evT_cmp, evT_cmp2, evT_cons, evT_val, evP_nil, evP_val, ex_skip, ex_seq, ex_asg, ex_par, ex_six, ex_aug, ex_ex, ex_ret, ex_retN, ex_ife, ex_brk, ex_cont, S_bind, S_ok, some_some, asB_bl, asI_int, getS_z, getS_s, der_non, der_bl, der_int, pder_str, der_tup, der_lst, pder_dct, der_ty, cmp_lt_i, cmp_le_i, cmp_gt_i, cmp_ge_i, cmp_eq_i, cmp_ne_i, cmp_lt_s, cmp_le_s, cmp_eq_s, cmp_ne_s, cmp_eq_l0, cmp_ne_l0, fin_val, fin_dct, len_tup, len_lst, List.getElem?_cons_succ, List.getElem?_cons_zero, List.set_cons_succ, List.set_cons_zero, List.map_cons, List.map_nil, List.replicate, List.cons_append, List.nil_append, if_true, if_false, ite_true, ite_false, Bool.not_true, Bool.not_false, Bool.false_eq_true, Option.map_some, der_locL haf', ka]
    refine S_mono (draws_lc (k := k + 1) (m := c) (lim := cnt) hd' (by omega) (by omega) (by omega) (by omega)) fun d s2 hds => ?_
    obtain ⟨rfl, acc, e1, e2, ⟨is, rfl, e4, e5⟩, e6, e7⟩ := hds
    have tp : biD .tuple [.lst (is.map nD)] = .val (.tup (is.map nD)) := rfl
    have f2 : ∀ u v : D, fits [u, v] = true := fun _ _ => rfl
    have hafl' : af < s'.length := (List.getElem?_eq_some_iff.mp haf').1
    have haf2 : s2[af]? = some (.lst (rs.map rwD)) := by rw [e7 af (by omega) (by omega) (by omega)]; exact haf'
    have ap : meD b s2 .append (.loc af) [rwD (nm, is)] = .ok (.val .non) (s2.set af (.lst ((rs ++ [(nm, is)]).map rwD))) := by
      rw [meD_loc haf2]
      refine meL_append (by rw [List.length_map]; omega) ?_
      rw [wr_new haf2 (fun z => by cases z) hb, List.map_append]
      rfl
    have er : D.tup [.str nm, .tup (is.map nD)] = rwD (nm, is) := rfl
    simp only [ev_var, ev_cint, ev_cstr, ev_cbl, ev_cnon, ev_gl, ev_bty, ev_val, ev_tup, ev_lst, ev_dnew, ev_bin, ev_neg, ev_cmp, ev_cmp2, ev_and, ev_or, ev_one, ev_not, ev_ite, ev_ix, ev_sl, ev_rev, ev_call, ev_callk, ev_bi, ev_me, evA_nil, evA_cons, evT_and, evT_or, evT_one, evT_not, evT_ite, evT_nil, evT_cmp, evT_cmp2, evT_cons, evT_val, evP_nil, evP_val, ex_skip, ex_seq, ex_asg, ex_par, ex_six, ex_aug, ex_ex, ex_ret, ex_retN, ex_ife, ex_brk, ex_cont, S_bind, S_ok, some_some, asB_bl, asI_int, getS_z, getS_s, der_non, der_bl, der_int, pder_str, der_tup, der_lst, pder_dct, der_ty, cmp_lt_i, cmp_le_i, cmp_gt_i, cmp_ge_i, cmp_eq_i, cmp_ne_i, cmp_lt_s, cmp_le_s, cmp_eq_s, cmp_ne_s, cmp_eq_l0, cmp_ne_l0, fin_val, fin_dct, len_tup, len_lst, List.getElem?_cons_succ, List.getElem?_cons_zero, List.set_cons_succ, List.set_cons_zero, List.map_cons, List.map_nil, List.replicate, List.cons_append, List.nil_append, if_true, if_false, ite_true, ite_false, Bool.not_true, Bool.not_false, Bool.false_eq_true, Option.map_some, der_locL e2, tp, f2, er, ap]
    refine ⟨_, rfl, _, o8, _, _, o11, rs ++ [(nm, is)], rfl, by rw [List.length_set]; have := hs'.1; omega, List.getElem?_set_self (by omega), by rw [List.length_append, g3]; rfl, fun r hr => ?_, (e6.mono (by omega)).set (by omega) (by omega), fun i i0 i1 i2 i3 => ?_⟩
    · rcases List.mem_append.mp hr with hr | hr
      · exact g4 r hr
      · rw [List.mem_singleton.mp hr]
        exact ⟨by show (nm, is.length) ∈ l ∨ (nm = "void" ∧ is.length = 0); rw [e4]; exact hnc, e5⟩
    · rw [List.getElem?_set_ne (Ne.symm i3), e7 i i1 i2 (by have := hs'.1; omega), hs'.2 i i1 i2]
      exact g6 i i0 i1 i2 i3
  simp only [ev_var, ev_cint, ev_cstr, ev_cbl, ev_cnon, ev_gl, ev_bty, ev_val, ev_tup, ev_lst, ev_dnew, ev_bin, ev_neg, ev_cmp, ev_cmp2, ev_and, ev_or, ev_one, ev_not, ev_ite, ev_ix, ev_sl, ev_rev, ev_call, ev_callk, ev_bi, ev_me, evA_nil, evA_cons, evT_and, evT_or, evT_one, evT_not, evT_ite, evT_nil, evT_cmp, evT_cmp2, evT_cons, evT_val, evP_nil, evP_val, ex_skip, ex_seq, ex_asg, ex_par, ex_six, ex_aug, ex_ex, ex_ret, ex_retN, ex_ife, ex_brk, ex_cont, S_bind, S_ok, some_some, asB_bl, asI_int, getS_z, getS_s, der_non, der_bl, der_int, pder_str, der_tup, der_lst, pder_dct, der_ty, cmp_lt_i, cmp_le_i, cmp_gt_i, cmp_ge_i, cmp_eq_i, cmp_ne_i, cmp_lt_s, cmp_le_s, cmp_eq_s, cmp_ne_s, cmp_eq_l0, cmp_ne_l0, fin_val, fin_dct, len_tup, len_lst, List.getElem?_cons_succ, List.getElem?_cons_zero, List.set_cons_succ, List.set_cons_zero, List.map_cons, List.map_nil, List.replicate, List.cons_append, List.nil_append, if_true, if_false, ite_true, ite_false, Bool.not_true, Bool.not_false, Bool.false_eq_true, Option.map_some]
  refine draw_run (lim := 3) (k := k + 1) g5 (by omega) (by decide) (by decide) fun y s1 hy hd1 hs1 => ?_
  have has1 : s1[as]? = some (.lst (sm l)) := by
    rw [hs1.2 as (by omega) (by omega), g6 as hasl (by omega) (by omega) hsf]
    exact has
  by_cases hy0 : (y : Int) = 0
  · have hy0' : decide ((y : Int) = 0) = true := decide_eq_true hy0
    simp only [ev_var, ev_cint, ev_cstr, ev_cbl, ev_cnon, ev_gl, ev_bty, ev_val, ev_tup, ev_lst, ev_dnew, ev_bin, ev_neg, ev_cmp, ev_cmp2, ev_and, ev_or, ev_one, ev_not, ev_ite, ev_ix, ev_sl, ev_rev, ev_call, ev_callk, ev_bi, ev_me, evA_nil, evA_cons, evT_and, evT_or, evT_one, evT_not, evT_ite, evT_nil, evT_cmp, evT_cmp2, evT_cons, evT_val, evP_nil, evP_val, ex_skip, ex_seq, ex_asg, ex_par, ex_six, ex_aug, ex_ex, ex_ret, ex_retN, ex_ife, ex_brk, ex_cont, S_bind, S_ok, some_some, asB_bl, asI_int, getS_z, getS_s, der_non, der_bl, der_int, pder_str, der_tup, der_lst, pder_dct, der_ty, cmp_lt_i, cmp_le_i, cmp_gt_i, cmp_ge_i, cmp_eq_i, cmp_ne_i, cmp_lt_s, cmp_le_s, cmp_eq_s, cmp_ne_s, cmp_eq_l0, cmp_ne_l0, fin_val, fin_dct, len_tup, len_lst, List.getElem?_cons_succ, List.getElem?_cons_zero, List.set_cons_succ, List.set_cons_zero, List.map_cons, List.map_nil, List.replicate, List.cons_append, List.nil_append, if_true, if_false, ite_true, ite_false, Bool.not_true, Bool.not_false, Bool.false_eq_true, Option.map_some, hy0']
    refine pick_run (k := k) hd1 (by omega) (.inr ⟨as, rfl, has1, by omega, by omega⟩) (by unfold sm; simp) (by unfold sm; rw [List.length_append, List.length_map, List.length_singleton]; have := hl.le; omega) (fun x hx => gd_clo _ _ (gdL_mem (sm_gd hl) hx)) fun x s2 hx hd2 hs2 => ?_
    obtain ⟨nm, c, rfl, h1, h2, h3⟩ := sm_mem hl hx
    simp only [asgT, asgL, List.getElem?_cons_succ, List.getElem?_cons_zero, List.set_cons_succ, List.set_cons_zero, List.map_cons, List.map_nil, List.replicate, List.cons_append, List.nil_append, if_true, if_false, ite_true, ite_false, Bool.not_true, Bool.not_false, Bool.false_eq_true, Option.map_some, ev_var, ev_cint, ev_cstr, ev_cbl, ev_cnon, ev_gl, ev_bty, ev_val, ev_tup, ev_lst, ev_dnew, ev_bin, ev_neg, ev_cmp, ev_cmp2, ev_and, ev_or, ev_one, ev_not, ev_ite, ev_ix, ev_sl, ev_rev, ev_call, ev_callk, ev_bi, ev_me, evA_nil, evA_cons, evT_and, evT_or, evT_one, evT_not, evT_ite, evT_nil, evT_cmp, evT_cmp2, evT_cons, evT_val, evP_nil, evP_val, ex_skip, ex_seq, ex_asg, ex_par, ex_six, ex_aug, ex_ex, ex_ret, ex_retN, ex_ife, ex_brk, ex_cont, S_bind, S_ok, some_some, asB_bl, asI_int, getS_z, getS_s, der_non, der_bl, der_int, pder_str, der_tup, der_lst, pder_dct, der_ty, cmp_lt_i, cmp_le_i, cmp_gt_i, cmp_ge_i, cmp_eq_i, cmp_ne_i, cmp_lt_s, cmp_le_s, cmp_eq_s, cmp_ne_s, cmp_eq_l0, cmp_ne_l0, fin_val, fin_dct, len_tup, len_lst]
    have := fin nm c s2 h1 h2 h3 (hd2.mono (by omega)) (hs1.trans hs2)
    simpa only [ev_var, ev_cint, ev_cstr, ev_cbl, ev_cnon, ev_gl, ev_bty, ev_val, ev_tup, ev_lst, ev_dnew, ev_bin, ev_neg, ev_cmp, ev_cmp2, ev_and, ev_or, ev_one, ev_not, ev_ite, ev_ix, ev_sl, ev_rev, ev_call, ev_callk, ev_bi, ev_me, evA_nil, evA_cons, evT_and, evT_or, evT_one, evT_not, evT_ite, evT_nil, evT_cmp, evT_cmp2, evT_cons, evT_val, evP_nil, evP_val, ex_skip, ex_seq, ex_asg, ex_par, ex_six, ex_aug, ex_ex, ex_ret, ex_retN, ex_ife, ex_brk, ex_cont, S_bind, S_ok, some_some, asB_bl, asI_int, getS_z, getS_s, der_non, der_bl, der_int, pder_str, der_tup, der_lst, pder_dct, der_ty, cmp_lt_i, cmp_le_i, cmp_gt_i, cmp_ge_i, cmp_eq_i, cmp_ne_i, cmp_lt_s, cmp_le_s, cmp_eq_s, cmp_ne_s, cmp_eq_l0, cmp_ne_l0, fin_val, fin_dct, len_tup, len_lst, List.getElem?_cons_succ, List.getElem?_cons_zero, List.set_cons_succ, List.set_cons_zero, List.map_cons, List.map_nil, List.replicate, List.cons_append, List.nil_append, if_true, if_false, ite_true, ite_false, Bool.not_true, Bool.not_false, Bool.false_eq_true, Option.map_some] using this
  · have hy0' : decide ((y : Int) = 0) = false := decide_eq_false hy0
    simp only [ev_var, ev_cint, ev_cstr, ev_cbl, ev_cnon, ev_gl, ev_bty, ev_val, ev_tup, ev_lst, ev_dnew, ev_bin, ev_neg, ev_cmp, ev_cmp2, ev_and, ev_or, ev_one, ev_not, ev_ite, ev_ix, ev_sl, ev_rev, ev_call, ev_callk, ev_bi, ev_me, evA_nil, evA_cons, evT_and, evT_or, evT_one, evT_not, evT_ite, evT_nil, evT_cmp, evT_cmp2, evT_cons, evT_val, evP_nil, evP_val, ex_skip, ex_seq, ex_asg, ex_par, ex_six, ex_aug, ex_ex, ex_ret, ex_retN, ex_ife, ex_brk, ex_cont, S_bind, S_ok, some_some, asB_bl, asI_int, getS_z, getS_s, der_non, der_bl, der_int, pder_str, der_tup, der_lst, pder_dct, der_ty, cmp_lt_i, cmp_le_i, cmp_gt_i, cmp_ge_i, cmp_eq_i, cmp_ne_i, cmp_lt_s, cmp_le_s, cmp_eq_s, cmp_ne_s, cmp_eq_l0, cmp_ne_l0, fin_val, fin_dct, len_tup, len_lst, List.getElem?_cons_succ, List.getElem?_cons_zero, List.set_cons_succ, List.set_cons_zero, List.map_cons, List.map_nil, List.replicate, List.cons_append, List.nil_append, if_true, if_false, ite_true, ite_false, Bool.not_true, Bool.not_false, Bool.false_eq_true, Option.map_some, hy0']
    refine pickt_run (k := k) hd1 (by omega) (by rw [List.length_map]; omega) (by rw [List.length_map]; have := hl.le; omega) (fun x hx => gd_clo _ _ (gdL_mem (Tags.gdT fun p hp => (hl.ok p hp).1) hx)) fun x s2 hx hd2 hs2 => ?_
    obtain ⟨nm, c, rfl, h1, h2, h3⟩ := sm_mem hl (List.mem_append_left _ hx)
    simp only [asgT, asgL, List.getElem?_cons_succ, List.getElem?_cons_zero, List.set_cons_succ, List.set_cons_zero, List.map_cons, List.map_nil, List.replicate, List.cons_append, List.nil_append, if_true, if_false, ite_true, ite_false, Bool.not_true, Bool.not_false, Bool.false_eq_true, Option.map_some, ev_var, ev_cint, ev_cstr, ev_cbl, ev_cnon, ev_gl, ev_bty, ev_val, ev_tup, ev_lst, ev_dnew, ev_bin, ev_neg, ev_cmp, ev_cmp2, ev_and, ev_or, ev_one, ev_not, ev_ite, ev_ix, ev_sl, ev_rev, ev_call, ev_callk, ev_bi, ev_me, evA_nil, evA_cons, evT_and, evT_or, evT_one, evT_not, evT_ite, evT_nil, evT_cmp, evT_cmp2, evT_cons, evT_val, evP_nil, evP_val, ex_skip, ex_seq, ex_asg, ex_par, ex_six, ex_aug, ex_ex, ex_ret, ex_retN, ex_ife, ex_brk, ex_cont, S_bind, S_ok, some_some, asB_bl, asI_int, getS_z, getS_s, der_non, der_bl, der_int, pder_str, der_tup, der_lst, pder_dct, der_ty, cmp_lt_i, cmp_le_i, cmp_gt_i, cmp_ge_i, cmp_eq_i, cmp_ne_i, cmp_lt_s, cmp_le_s, cmp_eq_s, cmp_ne_s, cmp_eq_l0, cmp_ne_l0, fin_val, fin_dct, len_tup, len_lst]
    have := fin nm c s2 h1 h2 h3 (hd2.mono (by omega)) (hs1.trans hs2)
    simpa only [ev_var, ev_cint, ev_cstr, ev_cbl, ev_cnon, ev_gl, ev_bty, ev_val, ev_tup, ev_lst, ev_dnew, ev_bin, ev_neg, ev_cmp, ev_cmp2, ev_and, ev_or, ev_one, ev_not, ev_ite, ev_ix, ev_sl, ev_rev, ev_call, ev_callk, ev_bi, ev_me, evA_nil, evA_cons, evT_and, evT_or, evT_one, evT_not, evT_ite, evT_nil, evT_cmp, evT_cmp2, evT_cons, evT_val, evP_nil, evP_val, ex_skip, ex_seq, ex_asg, ex_par, ex_six, ex_aug, ex_ex, ex_ret, ex_retN, ex_ife, ex_brk, ex_cont, S_bind, S_ok, some_some, asB_bl, asI_int, getS_z, getS_s, der_non, der_bl, der_int, pder_str, der_tup, der_lst, pder_dct, der_ty, cmp_lt_i, cmp_le_i, cmp_gt_i, cmp_ge_i, cmp_eq_i, cmp_ne_i, cmp_lt_s, cmp_le_s, cmp_eq_s, cmp_ne_s, cmp_eq_l0, cmp_ne_l0, fin_val, fin_dct, len_tup, len_lst, List.getElem?_cons_succ, List.getElem?_cons_zero, List.set_cons_succ, List.set_cons_zero, List.map_cons, List.map_nil, List.replicate, List.cons_append, List.nil_append, if_true, if_false, ite_true, ite_false, Bool.not_true, Bool.not_false, Bool.false_eq_true, Option.map_some] using this
end K01
end
section
open PySem L2 Mi
namespace K01
def chainE : E := (.tup (.cons (.var 9) (.cons (.bin false .Mult (.tup (.cons (.bin false .Add (.var 4) (.cint 1)) .nil)) (.var 10)) .nil)))
def rowsA : S := (.seq (.asg (.tp (.cons (.nm 9) (.cons (.nm 10) .nil))) (.call "_law_pick" 3 (.cons (.var 0) (.cons (.var 2) .nil)))) (.seq (.asg (.nm 3) (.bin true .Add (.cint 1) (.call "_law_draw" 1 (.cons (.var 0) (.cons (.cint 23) .nil))))) (.seq (.asgc 7 .range1 (.cons (.bin false .Sub (.var 3) (.cint 1)) .nil) (.nm 4) .nil chainE [4]) (.seq (.ret (.bi .tuple false (.cons (.bin false .Add (.var 7) (.lst false (.cons (.tup (.cons (.var 9) (.cons (.bin false .Mult (.tup (.cons (.call "_law_pick" 3 (.cons (.var 0) (.cons (.lst false (.cons (.cint 0) (.cons (.var 3) (.cons (.var 3) .nil)))) .nil))) .nil)) (.var 10)) .nil))) (.cons (.tup (.cons (.cstr "void") (.cons (.tup .nil) .nil))) .nil)))) .nil))) .skip))))
def rowsB : S := (.seq (.asg (.nm 3) (.bin true .Add (.cint 1) (.call "_law_draw" 1 (.cons (.var 0) (.cons (.cint 12) .nil))))) (.seq (.for_ .range1 (.cons (.var 3) .nil) (.nm 4) rowBody) (.seq (.ret (.bi .tuple false (.cons (.var 7) .nil))) .skip)))
theorem rows_body : f__law_rows.body = .seq (.par [5, 6, 7] (.cons (.bin true .Add (.bi .list false (.cons (.var 1) .nil)) (.lst false (.cons (.tup (.cons (.cstr "void") (.cons (.cint 0) .nil))) .nil))) (.cons (.call "_law_draw" 1 (.cons (.var 0) (.cons (.cint 6) .nil))) (.cons (.lst true .nil) .nil)))) (.seq (.asgc 2 .seq (.cons (.var 1) .nil) (.nm 8) (.cons (.cmp .Gt (.ix (.var 8) (.cint 1)) (.cint 0)) .nil) (.var 8) [8]) (.seq (.ife (.and (.cmp .Eq (.var 6) (.cint 0)) (.one (.cmp .NotEq (.var 2) (.lst false .nil)))) rowsA .skip) rowsB)) := rfl
def wideB (d : D) : Bool := match d with
  | .tup [_, .int c] => decide (0 < c)
  | _ => false
def chainF (nm : Str) (c : Nat) (d : D) : D := match d with
  | .int i => .tup [.str nm, .tup (List.replicate c (.int (i + 1)))]
  | _ => .non
theorem rowsA_run {k n p q L as aw af cw b : Nat} {l : List (Str × Nat)} {s5 : Store} {W : List D} {Q : Fl → Store → Prop} (hl : Tags l) (hd : Dk n s5 p q) (hn : n ≤ 10000) (hW : s5[aw]? = some (.lst W)) (hWm : ∀ x ∈ W, x ∈ l.map tgD) (hW0 : W ≠ []) (hWl : W.length ≤ 6) (hpw : p < aw)
    (hQ : ∀ (rs : List (Str × List Nat)) (s : Store), Rows l rs → s5.length ≤ s.length → Dk (n + 3) s p q → (∀ i, i < s5.length → i ≠ p → i ≠ q → s[i]? = s5[i]?) → Q (.ret (.tup (rs.map rwD))) s) :
    (ex ⟨Mi.run tb gs 10000 (k + 2), gs⟩ 10000 b rowsA [some (.loc p), some (.tup (l.map tgD)), some (.loc aw), none, none, some (.loc as), some (.int (cw : Int)), some (.loc af), none, none, none, none] s5).S Q := by
  unfold rowsA
  have hlt := hd.lt
  simp only [ev_var, ev_cint, ev_cstr, ev_cbl, ev_cnon, ev_gl, ev_bty, ev_val, ev_tup, ev_lst, ev_dnew, ev_bin, ev_neg, ev_cmp, ev_cmp2, ev_and, ev_or, ev_one, ev_not, ev_ite, ev_ix, ev_sl, ev_rev, ev_call, ev_callk, ev_bi, ev_me, evA_nil, evA_cons, evT_and, evT_or, evT_one, evT_not, evT_ite, evT_nil, evT_cmp, evT_cmp2, evT_cons, evT_val, evP_nil, evP_val, ex_skip, ex_seq, ex_asg, ex_par, ex_six, ex_aug, ex_ex, ex_ret, ex_retN, ex_ife, ex_brk, ex_cont, S_bind, S_ok, some_some, asB_bl, asI_int, getS_z, getS_s, der_non, der_bl, der_int, pder_str, der_tup, der_lst, pder_dct, der_ty, cmp_lt_i, cmp_le_i, cmp_gt_i, cmp_ge_i, cmp_eq_i, cmp_ne_i, cmp_lt_s, cmp_le_s, cmp_eq_s, cmp_ne_s, cmp_eq_l0, cmp_ne_l0, fin_val, fin_dct, len_tup, len_lst, List.getElem?_cons_succ, List.getElem?_cons_zero, List.set_cons_succ, List.set_cons_zero, List.map_cons, List.map_nil, List.replicate, List.cons_append, List.nil_append, if_true, if_false, ite_true, ite_false, Bool.not_true, Bool.not_false, Bool.false_eq_true, Option.map_some]
  refine pick_run (k := k) hd (by omega) (.inr ⟨aw, rfl, hW, by omega, by omega⟩) (List.length_pos_iff.mpr hW0) (by omega) (fun x hx => gd_clo _ _ (gdL_mem (Tags.gdT fun p hp => (hl.ok p hp).1) (hWm x hx))) fun x s1 hx hd1 hs1 => ?_
  obtain ⟨t, ht, rfl⟩ := List.mem_map.mp (hWm x hx)
  obtain ⟨nm, c⟩ := t
  have hok := hl.ok _ ht
  have etg : tgD (nm, c) = .tup [.str nm, .int (c : Int)] := rfl
  simp only [etg, asgT, asgL, ev_var, ev_cint, ev_cstr, ev_cbl, ev_cnon, ev_gl, ev_bty, ev_val, ev_tup, ev_lst, ev_dnew, ev_bin, ev_neg, ev_cmp, ev_cmp2, ev_and, ev_or, ev_one, ev_not, ev_ite, ev_ix, ev_sl, ev_rev, ev_call, ev_callk, ev_bi, ev_me, evA_nil, evA_cons, evT_and, evT_or, evT_one, evT_not, evT_ite, evT_nil, evT_cmp, evT_cmp2, evT_cons, evT_val, evP_nil, evP_val, ex_skip, ex_seq, ex_asg, ex_par, ex_six, ex_aug, ex_ex, ex_ret, ex_retN, ex_ife, ex_brk, ex_cont, S_bind, S_ok, some_some, asB_bl, asI_int, getS_z, getS_s, der_non, der_bl, der_int, pder_str, der_tup, der_lst, pder_dct, der_ty, cmp_lt_i, cmp_le_i, cmp_gt_i, cmp_ge_i, cmp_eq_i, cmp_ne_i, cmp_lt_s, cmp_le_s, cmp_eq_s, cmp_ne_s, cmp_eq_l0, cmp_ne_l0, fin_val, fin_dct, len_tup, len_lst, List.getElem?_cons_succ, List.getElem?_cons_zero, List.set_cons_succ, List.set_cons_zero, List.map_cons, List.map_nil, List.replicate, List.cons_append, List.nil_append, if_true, if_false, ite_true, ite_false, Bool.not_true, Bool.not_false, Bool.false_eq_true, Option.map_some]
  refine draw_run (lim := 23) (k := k + 1) hd1 (by omega) (by decide) (by decide) fun j s2 hj hd2 hs2 => ?_
  have hs12 := hs1.trans hs2
  have ea : binD .Add (.int 1) (.int (j : Int)) = .val (.int ((1 + j : Nat) : Int)) := by
    rw [bin_add]
    rfl
  simp only [ev_var, ev_cint, ev_cstr, ev_cbl, ev_cnon, ev_gl, ev_bty, ev_val, ev_tup, ev_lst, ev_dnew, ev_bin, ev_neg, ev_cmp, ev_cmp2, ev_and, ev_or, ev_one, ev_not, ev_ite, ev_ix, ev_sl, ev_rev, ev_call, ev_callk, ev_bi, ev_me, evA_nil, evA_cons, evT_and, evT_or, evT_one, evT_not, evT_ite, evT_nil, evT_cmp, evT_cmp2, evT_cons, evT_val, evP_nil, evP_val, ex_skip, ex_seq, ex_asg, ex_par, ex_six, ex_aug, ex_ex, ex_ret, ex_retN, ex_ife, ex_brk, ex_cont, S_bind, S_ok, some_some, asB_bl, asI_int, getS_z, getS_s, der_non, der_bl, der_int, pder_str, der_tup, der_lst, pder_dct, der_ty, cmp_lt_i, cmp_le_i, cmp_gt_i, cmp_ge_i, cmp_eq_i, cmp_ne_i, cmp_lt_s, cmp_le_s, cmp_eq_s, cmp_ne_s, cmp_eq_l0, cmp_ne_l0, fin_val, fin_dct, len_tup, len_lst, List.getElem?_cons_succ, List.getElem?_cons_zero, List.set_cons_succ, List.set_cons_zero, List.map_cons, List.map_nil, List.replicate, List.cons_append, List.nil_append, if_true, if_false, ite_true, ite_false, Bool.not_true, Bool.not_false, Bool.false_eq_true, Option.map_some, ea, asgT, ex_asgc]
  have e1 : ev ⟨Mi.run tb gs 10000 (k + 2), gs⟩ b (.lc .range1 (.cons (.bin false .Sub (.var 3) (.cint 1)) .nil) (.nm 4) .nil chainE [4]) [some (.loc p), some (.tup (l.map tgD)), some (.loc aw), some (.int ((1 + j : Nat) : Int)), none, some (.loc as), some (.int (cw : Int)), some (.loc af), none, some (.str nm), some (.int (c : Int)), none] s2 = .ok (.loc s2.length) (s2 ++ [O.lst (((rng 0 j).filter fun _ => true).map (chainF nm c))]) := by
    have a1 : evA ⟨Mi.run tb gs 10000 (k + 2), gs⟩ b (.cons (.bin false .Sub (.var 3) (.cint 1)) .nil) [some (.loc p), some (.tup (l.map tgD)), some (.loc aw), some (.int ((1 + j : Nat) : Int)), none, some (.loc as), some (.int (cw : Int)), some (.loc af), none, some (.str nm), some (.int (c : Int)), none] s2 = .ok [.int (j : Int)] s2 := by
      have eb : (((1 + j : Nat) : Int) - 1) = (j : Int) := by omega
      simp only [evA_cons, evA_nil, ev_bin, ev_cint, ev_var, getS_s, getS_z, some_some, bind_ok', der_int, bin_sub, eb, fin_val]
    have a2 := toW_range1 (c := j) (st := s2) (by omega) (by omega)
    rw [Int.toNat_natCast] at a2
    refine S_lc (bind_ok a1 a2) (by rw [rng_len]; omega) fun x hx acc => ?_
    obtain ⟨i, hi, rfl⟩ := rng_mem hx
    refine ⟨[some (.loc p), some (.tup (l.map tgD)), some (.loc aw), some (.int ((1 + j : Nat) : Int)), some (.int (0 + (i : Int))), some (.loc as), some (.int (cw : Int)), some (.loc af), none, some (.str nm), some (.int (c : Int)), none], rfl, by rw [evT_nil], fun _ => ?_⟩
    unfold chainE
    have f1 : ∀ u : D, fits [u] = true := fun _ => rfl
    have f2 : ∀ u v : D, fits [u, v] = true := fun _ _ => rfl
    have mu : binD .Mult (.tup [.int (0 + (i : Int) + 1)]) (.int (c : Int)) = .val (.tup (List.replicate c (.int (0 + (i : Int) + 1)))) := by
      rw [bin_mulT (by omega) (by have := hok.2.2; omega) (by show 1 ≤ 1000; decide), rep_one, Int.toNat_natCast]
    simp only [ev_tup, evA_cons, evA_nil, ev_bin, ev_var, ev_cint, getS_s, getS_z, some_some, bind_ok', der_int, der_tup, bin_add, fin_val, f1, f2, if_true, mu]
    rfl
  have f3 : fits [D.int 0, .int ((1 + j : Nat) : Int), .int ((1 + j : Nat) : Int)] = true := rfl
  rw [List.filter_eq_self.mpr fun _ _ => rfl] at e1
  generalize hs3 : s2 ++ [O.lst ((rng 0 j).map (chainF nm c))] = s3 at e1
  have hd3 : Dk (n + 2) s3 p q := by rw [← hs3]; exact hd2.app _
  have g3 : s3[s2.length]? = some (.lst ((rng 0 j).map (chainF nm c))) := by rw [← hs3]; simp
  simp only [ev_var, ev_cint, ev_cstr, ev_cbl, ev_cnon, ev_gl, ev_bty, ev_val, ev_tup, ev_lst, ev_dnew, ev_bin, ev_neg, ev_cmp, ev_cmp2, ev_and, ev_or, ev_one, ev_not, ev_ite, ev_ix, ev_sl, ev_rev, ev_call, ev_callk, ev_bi, ev_me, evA_nil, evA_cons, evT_and, evT_or, evT_one, evT_not, evT_ite, evT_nil, evT_cmp, evT_cmp2, evT_cons, evT_val, evP_nil, evP_val, ex_skip, ex_seq, ex_asg, ex_par, ex_six, ex_aug, ex_ex, ex_ret, ex_retN, ex_ife, ex_brk, ex_cont, S_bind, S_ok, some_some, asB_bl, asI_int, getS_z, getS_s, der_non, der_bl, der_int, pder_str, der_tup, der_lst, pder_dct, der_ty, cmp_lt_i, cmp_le_i, cmp_gt_i, cmp_ge_i, cmp_eq_i, cmp_ne_i, cmp_lt_s, cmp_le_s, cmp_eq_s, cmp_ne_s, cmp_eq_l0, cmp_ne_l0, fin_val, fin_dct, len_tup, len_lst, List.getElem?_cons_succ, List.getElem?_cons_zero, List.set_cons_succ, List.set_cons_zero, List.map_cons, List.map_nil, List.replicate, List.cons_append, List.nil_append, if_true, if_false, ite_true, ite_false, Bool.not_true, Bool.not_false, Bool.false_eq_true, Option.map_some, bind_ok', e1, fin_lst f3, der_locL g3]
  refine pick_run (k := k) (xs := [D.int 0, .int ((1 + j : Nat) : Int), .int ((1 + j : Nat) : Int)]) hd3 (by omega) (.inl rfl) (by show 0 < 3; decide) (by show 3 ≤ 1000000; decide) (fun x hx => gd_clo _ _ (gdL_mem (ds := [D.int 0, .int ((1 + j : Nat) : Int), .int ((1 + j : Nat) : Int)]) rfl hx)) fun y s4 hy hd4 hs4 => ?_
  obtain ⟨z, hz, rfl⟩ : ∃ z : Nat, z ≤ 1 + j ∧ y = .int (z : Int) := by
    simp only [List.mem_cons, List.not_mem_nil, or_false] at hy
    rcases hy with rfl | rfl | rfl
    · exact ⟨0, by omega, rfl⟩
    · exact ⟨1 + j, Nat.le_refl _, rfl⟩
    · exact ⟨1 + j, Nat.le_refl _, rfl⟩
  have l3 : s3.length = s2.length + 1 := by rw [← hs3]; simp
  have lt2 := hd2.lt
  have g4 : s4[s2.length]? = some (.lst ((rng 0 j).map (chainF nm c))) := by rw [hs4.2 _ (by omega) (by omega)]; exact g3
  have f1 : ∀ u : D, fits [u] = true := fun _ => rfl
  have f2 : ∀ u v : D, fits [u, v] = true := fun _ _ => rfl
  have f0 : fits ([] : List D) = true := rfl
  have mu : binD .Mult (.tup [.int (z : Int)]) (.int (c : Int)) = .val (.tup (List.replicate c (.int (z : Int)))) := by
    rw [bin_mulT (by omega) (by have := hok.2.2; omega) (by show 1 ≤ 1000; decide), rep_one, Int.toNat_natCast]
  have fL : ∀ (u v : D) (s : Store), (PR.newL [u, v]).fin false s = .ok (.lst [u, v]) s := fun u v s => fin_lst rfl
  have fA : fits ((rng 0 j).map (chainF nm c) ++ [D.tup [.str nm, .tup (List.replicate c (.int (z : Int)))], .tup [.str "void", .tup []]]) = true := fits_of (by rw [List.length_append, List.length_map, rng_len]; show j + 2 ≤ 16777216; omega)
  have tp : ∀ xs : List D, biD .tuple [.lst xs] = .val (.tup xs) := fun _ => rfl
  have hrs : (rng 0 j).map (chainF nm c) ++ [D.tup [.str nm, .tup (List.replicate c (.int (z : Int)))], .tup [.str "void", .tup []]] = (((List.range j).map fun i => (nm, List.replicate c (i + 1))) ++ [(nm, List.replicate c z), ("void", [])]).map rwD := by
    rw [List.map_append, List.map_map]
    congr 1
    · unfold rng
      rw [List.map_map]
      refine List.map_congr_left fun i _ => ?_
      show D.tup [.str nm, .tup (List.replicate c (.int (0 + (i : Int) + 1)))] = .tup [.str nm, .tup ((List.replicate c (i + 1)).map nD)]
      rw [List.map_replicate]
      unfold nD
      rw [show (0 + (i : Int) + 1) = ((i + 1 : Nat) : Int) by omega]
    · show [D.tup [.str nm, .tup (List.replicate c (.int (z : Int)))], .tup [.str "void", .tup []]] = [.tup [.str nm, .tup ((List.replicate c z).map nD)], .tup [.str "void", .tup ([].map nD)]]
      rw [List.map_replicate]
      rfl
  simp only [ev_var, ev_cint, ev_cstr, ev_cbl, ev_cnon, ev_gl, ev_bty, ev_val, ev_tup, ev_lst, ev_dnew, ev_bin, ev_neg, ev_cmp, ev_cmp2, ev_and, ev_or, ev_one, ev_not, ev_ite, ev_ix, ev_sl, ev_rev, ev_call, ev_callk, ev_bi, ev_me, evA_nil, evA_cons, evT_and, evT_or, evT_one, evT_not, evT_ite, evT_nil, evT_cmp, evT_cmp2, evT_cons, evT_val, evP_nil, evP_val, ex_skip, ex_seq, ex_asg, ex_par, ex_six, ex_aug, ex_ex, ex_ret, ex_retN, ex_ife, ex_brk, ex_cont, S_bind, S_ok, some_some, asB_bl, asI_int, getS_z, getS_s, der_non, der_bl, der_int, pder_str, der_tup, der_lst, pder_dct, der_ty, cmp_lt_i, cmp_le_i, cmp_gt_i, cmp_ge_i, cmp_eq_i, cmp_ne_i, cmp_lt_s, cmp_le_s, cmp_eq_s, cmp_ne_s, cmp_eq_l0, cmp_ne_l0, fin_val, fin_dct, len_tup, len_lst, List.getElem?_cons_succ, List.getElem?_cons_zero, List.set_cons_succ, List.set_cons_zero, List.map_cons, List.map_nil, List.replicate, List.cons_append, List.nil_append, if_true, if_false, ite_true, ite_false, Bool.not_true, Bool.not_false, Bool.false_eq_true, Option.map_some, f1, f2, f0, mu, fL, der_locL g4, bin_addL, fin_lst fA, tp]
  rw [hrs]
  have hrl : (((List.range j).map fun i => (nm, List.replicate c (i + 1))) ++ [(nm, List.replicate c z), (("void" : Str), ([] : List Nat))]).length = j + 2 := by simp
  refine hQ _ _ ⟨by omega, by omega, fun r hr => ?_⟩ ?_ hd4 fun i hi i1 i2 => ?_
  · rw [hrl]
    rcases List.mem_append.mp hr with hr | hr
    · obtain ⟨i, hi, rfl⟩ := List.mem_map.mp hr
      have hi' := List.mem_range.mp hi
      exact ⟨.inl (by show (nm, (List.replicate c (i + 1)).length) ∈ l; rw [List.length_replicate]; exact ht), fun x hx => by rw [List.eq_of_mem_replicate hx]; omega⟩
    · simp only [List.mem_cons, List.not_mem_nil, or_false] at hr
      rcases hr with rfl | rfl
      · exact ⟨.inl (by show (nm, (List.replicate c z).length) ∈ l; rw [List.length_replicate]; exact ht), fun x hx => by rw [List.eq_of_mem_replicate hx]; omega⟩
      · exact ⟨.inr ⟨rfl, rfl⟩, fun x hx => by cases hx⟩
  · have := hs12.1; have := hs4.1; omega
  · have := hs12.1
    rw [hs4.2 i i1 i2, ← hs3, List.getElem?_append_left (by omega), hs12.2 i i1 i2]
end K01
end
section
open PySem L2 Mi
namespace K01
theorem rowsB_run {k n p q as aw af cw b : Nat} {l : List (Str × Nat)} {s5 : Store} {Q : Fl → Store → Prop} (hl : Tags l) (hl1 : 1 ≤ l.length) (hd : Dk n s5 p q) (hn : n ≤ 5000) (has : s5[as]? = some (.lst (sm l))) (haf : s5[af]? = some (.lst [])) (hpa : p < as) (hpf : p < af) (hsf : as ≠ af) (hb : b ≤ af)
    (hQ : ∀ (rs : List (Str × List Nat)) (s : Store), Rows l rs → s5.length ≤ s.length → Dk (n + 61) s p q → (∀ i, i < s5.length → i ≠ p → i ≠ q → i ≠ af → s[i]? = s5[i]?) → Q (.ret (.tup (rs.map rwD))) s) :
    (ex ⟨Mi.run tb gs 10000 (k + 2), gs⟩ 10000 b rowsB [some (.loc p), some (.tup (l.map tgD)), some (.loc aw), none, none, some (.loc as), some (.int (cw : Int)), some (.loc af), none, none, none, none] s5).S Q := by
  unfold rowsB
  have hlt := hd.lt
  simp only [ev_var, ev_cint, ev_cstr, ev_cbl, ev_cnon, ev_gl, ev_bty, ev_val, ev_tup, ev_lst, ev_dnew, ev_bin, ev_neg, ev_cmp, ev_cmp2, ev_and, ev_or, ev_one, ev_not, ev_ite, ev_ix, ev_sl, ev_rev, ev_call, ev_callk, ev_bi, ev_me, evA_nil, evA_cons, evT_and, evT_or, evT_one, evT_not, evT_ite, evT_nil, evT_cmp, evT_cmp2, evT_cons, evT_val, evP_nil, evP_val, ex_skip, ex_seq, ex_asg, ex_par, ex_six, ex_aug, ex_ex, ex_ret, ex_retN, ex_ife, ex_brk, ex_cont, S_bind, S_ok, some_some, asB_bl, asI_int, getS_z, getS_s, der_non, der_bl, der_int, pder_str, der_tup, der_lst, pder_dct, der_ty, cmp_lt_i, cmp_le_i, cmp_gt_i, cmp_ge_i, cmp_eq_i, cmp_ne_i, cmp_lt_s, cmp_le_s, cmp_eq_s, cmp_ne_s, cmp_eq_l0, cmp_ne_l0, fin_val, fin_dct, len_tup, len_lst, List.getElem?_cons_succ, List.getElem?_cons_zero, List.set_cons_succ, List.set_cons_zero, List.map_cons, List.map_nil, List.replicate, List.cons_append, List.nil_append, if_true, if_false, ite_true, ite_false, Bool.not_true, Bool.not_false, Bool.false_eq_true, Option.map_some]
  refine draw_run (lim := 12) (k := k + 1) hd (by omega) (by decide) (by decide) fun j s6 hj hd6 hs6 => ?_
  have ea : binD .Add (.int 1) (.int (j : Int)) = .val (.int ((1 + j : Nat) : Int)) := by
    rw [bin_add]
    rfl
  have has6 : s6[as]? = some (.lst (sm l)) := by rw [hs6.2 as (by omega) (by omega)]; exact has
  have haf6 : s6[af]? = some (.lst []) := by rw [hs6.2 af (by omega) (by omega)]; exact haf
  simp only [ev_var, ev_cint, ev_cstr, ev_cbl, ev_cnon, ev_gl, ev_bty, ev_val, ev_tup, ev_lst, ev_dnew, ev_bin, ev_neg, ev_cmp, ev_cmp2, ev_and, ev_or, ev_one, ev_not, ev_ite, ev_ix, ev_sl, ev_rev, ev_call, ev_callk, ev_bi, ev_me, evA_nil, evA_cons, evT_and, evT_or, evT_one, evT_not, evT_ite, evT_nil, evT_cmp, evT_cmp2, evT_cons, evT_val, evP_nil, evP_val, ex_skip, ex_seq, ex_asg, ex_par, ex_six, ex_aug, ex_ex, ex_ret, ex_retN, ex_ife, ex_brk, ex_cont, S_bind, S_ok, some_some, asB_bl, asI_int, getS_z, getS_s, der_non, der_bl, der_int, pder_str, der_tup, der_lst, pder_dct, der_ty, cmp_lt_i, cmp_le_i, cmp_gt_i, cmp_ge_i, cmp_eq_i, cmp_ne_i, cmp_lt_s, cmp_le_s, cmp_eq_s, cmp_ne_s, cmp_eq_l0, cmp_ne_l0, fin_val, fin_dct, len_tup, len_lst, List.getElem?_cons_succ, List.getElem?_cons_zero, List.set_cons_succ, List.set_cons_zero, List.map_cons, List.map_nil, List.replicate, List.cons_append, List.nil_append, if_true, if_false, ite_true, ite_false, Bool.not_true, Bool.not_false, Bool.false_eq_true, Option.map_some, ea, asgT]
  refine S_mono (rows_loop5 (k := k) (b := b) (cnt := 1 + j) (way := cw) (aw := aw) hl hl1 hd6 (by omega) (by omega) (by omega) has6 haf6 hpa hpf hsf hb) fun f s hf => ?_
  obtain ⟨σ2, rfl, o4, o8, o9, o10, o11, rs, rfl, g1, g2, g3, g4, g5, g6⟩ := hf
  have tp : ∀ xs : List D, biD .tuple [.lst xs] = .val (.tup xs) := fun _ => rfl
  simp only [ev_var, ev_cint, ev_cstr, ev_cbl, ev_cnon, ev_gl, ev_bty, ev_val, ev_tup, ev_lst, ev_dnew, ev_bin, ev_neg, ev_cmp, ev_cmp2, ev_and, ev_or, ev_one, ev_not, ev_ite, ev_ix, ev_sl, ev_rev, ev_call, ev_callk, ev_bi, ev_me, evA_nil, evA_cons, evT_and, evT_or, evT_one, evT_not, evT_ite, evT_nil, evT_cmp, evT_cmp2, evT_cons, evT_val, evP_nil, evP_val, ex_skip, ex_seq, ex_asg, ex_par, ex_six, ex_aug, ex_ex, ex_ret, ex_retN, ex_ife, ex_brk, ex_cont, S_bind, S_ok, some_some, asB_bl, asI_int, getS_z, getS_s, der_non, der_bl, der_int, pder_str, der_tup, der_lst, pder_dct, der_ty, cmp_lt_i, cmp_le_i, cmp_gt_i, cmp_ge_i, cmp_eq_i, cmp_ne_i, cmp_lt_s, cmp_le_s, cmp_eq_s, cmp_ne_s, cmp_eq_l0, cmp_ne_l0, fin_val, fin_dct, len_tup, len_lst, List.getElem?_cons_succ, List.getElem?_cons_zero, List.set_cons_succ, List.set_cons_zero, List.map_cons, List.map_nil, List.replicate, List.cons_append, List.nil_append, if_true, if_false, ite_true, ite_false, Bool.not_true, Bool.not_false, Bool.false_eq_true, Option.map_some, der_locL g2, tp]
  have l6 := hs6.1
  refine hQ rs s ⟨by omega, by omega, fun r hr => by rw [g3]; exact g4 r hr⟩ (by omega) (g5.mono (by omega)) fun i hi i1 i2 i3 => ?_
  rw [g6 i (by omega) i1 i2 i3, hs6.2 i i1 i2]
theorem rows_run {k n p q b : Nat} {l : List (Str × Nat)} {st : Store} {Q : D → Store → Prop} (h : Dk n st p q) (hn : n ≤ 4000) (hl : Tags l) (hl1 : 1 ≤ l.length) (hQ : ∀ (rs : List (Str × List Nat)) (s : Store), Rows l rs → Dk (n + 62) s p q → Sm p q st s → Q (.tup (rs.map rwD)) s) :
    (Mi.run tb gs 10000 (k+3) 5 [.loc p, .tup (l.map tgD)] b st).S Q := by
  have hp := h.lt
  refine S_run (fn := f__law_rows) rfl rfl ?_
  rw [rows_body]
  have hgc : f__law_rows.gc = true := rfl
  have hnp : f__law_rows.nl = 10 := rfl
  rw [hgc, hnp]
  have bg : big = 16777216 := rfl
  have li : biD .list [.tup (l.map tgD)] = .newL (l.map tgD) := rfl
  have hle := hl.le
  have fe : fits (l.map tgD) = true := fits_of (by rw [List.length_map]; omega)
  have fs : fits (sm l) = true := fits_of (by unfold sm; rw [List.length_append, List.length_map, List.length_singleton]; omega)
  have f2 : ∀ u v : D, fits [u, v] = true := fun _ _ => rfl
  have f0 : fits ([] : List D) = true := rfl
  have fV : ∀ s : Store, (PR.newL [D.tup [.str "void", .int 0]]).fin false s = .ok (.lst [D.tup [.str "void", .int 0]]) s := fun s => fin_lst rfl
  have ad : binD .Add (.lst (l.map tgD)) (.lst [D.tup [.str "void", .int 0]]) = .newL (sm l) := rfl
  generalize hs1 : st ++ [O.lst (sm l)] = s1
  have l1 : s1.length = st.length + 1 := by rw [← hs1]; simp
  have hd1 : Dk n s1 p q := by rw [← hs1]; exact h.app _
  simp only [ev_var, ev_cint, ev_cstr, ev_cbl, ev_cnon, ev_gl, ev_bty, ev_val, ev_tup, ev_lst, ev_dnew, ev_bin, ev_neg, ev_cmp, ev_cmp2, ev_and, ev_or, ev_one, ev_not, ev_ite, ev_ix, ev_sl, ev_rev, ev_call, ev_callk, ev_bi, ev_me, evA_nil, evA_cons, evT_and, evT_or, evT_one, evT_not, evT_ite, evT_nil, evT_cmp, evT_cmp2, evT_cons, evT_val, evP_nil, evP_val, ex_skip, ex_seq, ex_asg, ex_par, ex_six, ex_aug, ex_ex, ex_ret, ex_retN, ex_ife, ex_brk, ex_cont, S_bind, S_ok, some_some, asB_bl, asI_int, getS_z, getS_s, der_non, der_bl, der_int, pder_str, der_tup, der_lst, pder_dct, der_ty, cmp_lt_i, cmp_le_i, cmp_gt_i, cmp_ge_i, cmp_eq_i, cmp_ne_i, cmp_lt_s, cmp_le_s, cmp_eq_s, cmp_ne_s, cmp_eq_l0, cmp_ne_l0, fin_val, fin_dct, len_tup, len_lst, List.getElem?_cons_succ, List.getElem?_cons_zero, List.set_cons_succ, List.set_cons_zero, List.map_cons, List.map_nil, List.replicate, List.cons_append, List.nil_append, if_true, if_false, ite_true, ite_false, Bool.not_true, Bool.not_false, Bool.false_eq_true, Option.map_some, li, fin_lst fe, f2, fV, ad, fin_lstO fs, hs1, setAll]
  refine draw_run (lim := 6) (k := k + 1) hd1 (by omega) (by decide) (by decide) fun w s2 hw hd2 hs2 => ?_
  have l2 := hs2.1
  generalize hs3 : s2 ++ [O.lst []] = s3
  have l3 : s3.length = st.length + 2 := by rw [← hs3]; simp [l2, l1]
  have hd3 : Dk (n + 1) s3 p q := by rw [← hs3]; exact hd2.app _
  have e1 : ev ⟨Mi.run tb gs 10000 (k + 2), gs⟩ st.length (.lc .seq (.cons (.var 1) .nil) (.nm 8) (.cons (.cmp .Gt (.ix (.var 8) (.cint 1)) (.cint 0)) .nil) (.var 8) [8]) [some (.loc p), some (.tup (l.map tgD)), none, none, none, some (.loc st.length), some (.int (w : Int)), some (.loc s2.length), none, none, none, none] s3 = .ok (.loc s3.length) (s3 ++ [O.lst (((l.map tgD).filter wideB).map fun d => d)]) := by
    have a1 : evA ⟨Mi.run tb gs 10000 (k + 2), gs⟩ st.length (.cons (.var 1) .nil) [some (.loc p), some (.tup (l.map tgD)), none, none, none, some (.loc st.length), some (.int (w : Int)), some (.loc s2.length), none, none, none, none] s3 = .ok [.tup (l.map tgD)] s3 := by
      simp only [evA_cons, evA_nil, ev_var, getS_s, getS_z, some_some, bind_ok']
    refine S_lc (bind_ok a1 (toW_items rfl)) (by rw [List.length_map]; omega) fun x hx acc => ?_
    obtain ⟨t, ht, rfl⟩ := List.mem_map.mp hx
    refine ⟨[some (.loc p), some (.tup (l.map tgD)), none, none, none, some (.loc st.length), some (.int (w : Int)), some (.loc s2.length), some (tgD t), none, none, none], rfl, ?_, fun _ => ?_⟩
    · have i1 : ixD (tgD t) (.int 1) = .val (.int (t.2 : Int)) := rfl
      have dt : ∀ s, der s (tgD t) = tgD t := fun _ => rfl
      simp only [evT_cons, evT_cmp, ev_ix, ev_var, ev_cint, getS_s, getS_z, some_some, bind_ok', dt, i1, fin_val, cmp_gt_i]
      rfl
    · simp only [ev_var, getS_s, getS_z, some_some]
  rw [List.map_id'] at e1
  generalize hW : (l.map tgD).filter wideB = W at e1
  have hWm : ∀ x ∈ W, x ∈ l.map tgD := fun x hx => by rw [← hW] at hx; exact (List.mem_filter.mp hx).1
  have hWl : W.length ≤ 6 := by
    rw [← hW]
    have := List.length_filter_le wideB (l.map tgD)
    rw [List.length_map] at this
    omega
  generalize hs4 : s3 ++ [O.lst W] = s4 at e1
  have l4 : s4.length = st.length + 3 := by rw [← hs4]; simp [l3]
  have hd4 : Dk (n + 1) s4 p q := by rw [← hs4]; exact hd3.app _
  have gW : s4[s3.length]? = some (.lst W) := by rw [← hs4]; simp
  have gs4 : s4[st.length]? = some (.lst (sm l)) := by
    rw [← hs4, List.getElem?_append_left (by omega), ← hs3, List.getElem?_append_left (by omega), hs2.2 _ (by omega) (by omega), ← hs1]
    simp
  have gf4 : s4[s2.length]? = some (.lst []) := by
    rw [← hs4, List.getElem?_append_left (by omega), ← hs3]
    simp
  have hpre : ∀ i, i < st.length → i ≠ p → i ≠ q → s4[i]? = st[i]? := fun i hi i1 i2 => by
    rw [← hs4, List.getElem?_append_left (by omega), ← hs3, List.getElem?_append_left (by omega), hs2.2 i i1 i2, ← hs1, List.getElem?_append_left (by omega)]
  have cW : cmpS .NotEq s4 (.loc s3.length) (.lst []) = some (!W.isEmpty) := cmp_ne_L0 gW
  have fin : ∀ (rs : List (Str × List Nat)) (s : Store), Rows l rs → s4.length ≤ s.length → Dk (n + 62) s p q → (∀ i, i < s4.length → i ≠ p → i ≠ q → i ≠ s2.length → s[i]? = s4[i]?) → (endF true st.length (.tup (rs.map rwD)) s).S Q := by
    intro rs s hr hle hdk hoth
    refine endF_S (gd_clo _ _ (by unfold gd; exact rows_gd hl hr.ok)) ?_
    refine hQ rs _ hr (hdk.take (by omega)) (Sm.of_take (by omega) fun i hi i1 i2 => ?_)
    rw [hoth i (by omega) i1 i2 (by omega), hpre i hi i1 i2]
  by_cases hw0 : (w : Int) = 0
  · have hw0' : decide ((w : Int) = 0) = true := decide_eq_true hw0
    cases hWe : W.isEmpty with
    | true =>
      rw [hWe] at cW
      simp only [ev_var, ev_cint, ev_cstr, ev_cbl, ev_cnon, ev_gl, ev_bty, ev_val, ev_tup, ev_lst, ev_dnew, ev_bin, ev_neg, ev_cmp, ev_cmp2, ev_and, ev_or, ev_one, ev_not, ev_ite, ev_ix, ev_sl, ev_rev, ev_call, ev_callk, ev_bi, ev_me, evA_nil, evA_cons, evT_and, evT_or, evT_one, evT_not, evT_ite, evT_nil, evT_cmp, evT_cmp2, evT_cons, evT_val, evP_nil, evP_val, ex_skip, ex_seq, ex_asg, ex_par, ex_six, ex_aug, ex_ex, ex_ret, ex_retN, ex_ife, ex_brk, ex_cont, S_bind, S_ok, some_some, asB_bl, asI_int, getS_z, getS_s, der_non, der_bl, der_int, pder_str, der_tup, der_lst, pder_dct, der_ty, cmp_lt_i, cmp_le_i, cmp_gt_i, cmp_ge_i, cmp_eq_i, cmp_ne_i, cmp_lt_s, cmp_le_s, cmp_eq_s, cmp_ne_s, cmp_eq_l0, cmp_ne_l0, fin_val, fin_dct, len_tup, len_lst, List.getElem?_cons_succ, List.getElem?_cons_zero, List.set_cons_succ, List.set_cons_zero, List.map_cons, List.map_nil, List.replicate, List.cons_append, List.nil_append, if_true, if_false, ite_true, ite_false, Bool.not_true, Bool.not_false, Bool.false_eq_true, Option.map_some, fin_lstO f0, hs3, ex_asgc, bind_ok', e1, hw0', fin_lst f0, cW]
      exact rowsB_run (k := k) (cw := w) (aw := s3.length) hl hl1 hd4 (by omega) gs4 gf4 (by omega) (by omega) (by omega) (by omega) fun rs s hr hle hdk hoth => fin rs s hr hle (hdk.mono (by omega)) hoth
    | false =>
      rw [hWe] at cW
      simp only [ev_var, ev_cint, ev_cstr, ev_cbl, ev_cnon, ev_gl, ev_bty, ev_val, ev_tup, ev_lst, ev_dnew, ev_bin, ev_neg, ev_cmp, ev_cmp2, ev_and, ev_or, ev_one, ev_not, ev_ite, ev_ix, ev_sl, ev_rev, ev_call, ev_callk, ev_bi, ev_me, evA_nil, evA_cons, evT_and, evT_or, evT_one, evT_not, evT_ite, evT_nil, evT_cmp, evT_cmp2, evT_cons, evT_val, evP_nil, evP_val, ex_skip, ex_seq, ex_asg, ex_par, ex_six, ex_aug, ex_ex, ex_ret, ex_retN, ex_ife, ex_brk, ex_cont, S_bind, S_ok, some_some, asB_bl, asI_int, getS_z, getS_s, der_non, der_bl, der_int, pder_str, der_tup, der_lst, pder_dct, der_ty, cmp_lt_i, cmp_le_i, cmp_gt_i, cmp_ge_i, cmp_eq_i, cmp_ne_i, cmp_lt_s, cmp_le_s, cmp_eq_s, cmp_ne_s, cmp_eq_l0, cmp_ne_l0, fin_val, fin_dct, len_tup, len_lst, List.getElem?_cons_succ, List.getElem?_cons_zero, List.set_cons_succ, List.set_cons_zero, List.map_cons, List.map_nil, List.replicate, List.cons_append, List.nil_append, if_true, if_false, ite_true, ite_false, Bool.not_true, Bool.not_false, Bool.false_eq_true, Option.map_some, fin_lstO f0, hs3, ex_asgc, bind_ok', e1, hw0', fin_lst f0, cW]
      refine rowsA_run (k := k) (cw := w) (as := st.length) (af := s2.length) (L := 0) hl hd4 (by omega) gW hWm (fun z => by rw [z] at hWe; cases hWe) hWl (by omega) fun rs s hr hle hdk hoth => ?_
      simp only [S_ok]
      exact fin rs s hr hle (hdk.mono (by omega)) fun i hi i1 i2 _ => hoth i hi i1 i2
  · have hw0' : decide ((w : Int) = 0) = false := decide_eq_false hw0
    simp only [ev_var, ev_cint, ev_cstr, ev_cbl, ev_cnon, ev_gl, ev_bty, ev_val, ev_tup, ev_lst, ev_dnew, ev_bin, ev_neg, ev_cmp, ev_cmp2, ev_and, ev_or, ev_one, ev_not, ev_ite, ev_ix, ev_sl, ev_rev, ev_call, ev_callk, ev_bi, ev_me, evA_nil, evA_cons, evT_and, evT_or, evT_one, evT_not, evT_ite, evT_nil, evT_cmp, evT_cmp2, evT_cons, evT_val, evP_nil, evP_val, ex_skip, ex_seq, ex_asg, ex_par, ex_six, ex_aug, ex_ex, ex_ret, ex_retN, ex_ife, ex_brk, ex_cont, S_bind, S_ok, some_some, asB_bl, asI_int, getS_z, getS_s, der_non, der_bl, der_int, pder_str, der_tup, der_lst, pder_dct, der_ty, cmp_lt_i, cmp_le_i, cmp_gt_i, cmp_ge_i, cmp_eq_i, cmp_ne_i, cmp_lt_s, cmp_le_s, cmp_eq_s, cmp_ne_s, cmp_eq_l0, cmp_ne_l0, fin_val, fin_dct, len_tup, len_lst, List.getElem?_cons_succ, List.getElem?_cons_zero, List.set_cons_succ, List.set_cons_zero, List.map_cons, List.map_nil, List.replicate, List.cons_append, List.nil_append, if_true, if_false, ite_true, ite_false, Bool.not_true, Bool.not_false, Bool.false_eq_true, Option.map_some, fin_lstO f0, hs3, ex_asgc, bind_ok', e1, hw0', fin_lst f0]
    exact rowsB_run (k := k) (cw := w) (aw := s3.length) hl hl1 hd4 (by omega) gs4 gf4 (by omega) (by omega) (by omega) (by omega) fun rs s hr hle hdk hoth => fin rs s hr hle (hdk.mono (by omega)) hoth
end K01
end
section
open PySem L2 Mi
namespace K01
def leftBody : S := (.seq (.asg (.nm 5) (.bin true .Add (.var 5) (.bin false .Mult (.lst false (.cons (.var 2) .nil)) (.bin false .Add (.bi .int1 false (.cons (.cmp .Gt (.var 2) (.cint 0)) .nil)) (.call "_law_draw" 1 (.cons (.var 0) (.cons (.ix (.lst false (.cons (.cint 4) (.cons (.cint 2) .nil))) (.bi .int1 false (.cons (.cmp .Gt (.bi .len false (.cons (.var 1) .nil)) (.cint 15)) .nil))) .nil))))))) .skip)
def popBody : S := (.seq (.ex (.me .append false (.var 4) (.cons (.me .popi false (.var 5) (.cons (.call "_law_draw" 1 (.cons (.var 0) (.cons (.bi .len false (.cons (.var 5) .nil)) .nil))) .nil)) .nil))) .skip)
def spotE : E := (.lc .range1 (.cons (.bi .len false (.cons (.var 4) .nil)) .nil) (.nm 8) (.cons (.cmp .Eq (.ix (.var 4) (.var 8)) (.var 7)) .nil) (.var 8) [8])
def fieldE : E := (.call "_law_pick" 3 (.cons (.var 0) (.cons spotE .nil)))
def copyBody : S := (.seq (.asgc 6 .seq (.cons (.ix (.ix (.var 1) (.var 2)) (.cint 1)) .nil) (.nm 7) .nil fieldE [7]) (.seq (.ex (.me .append false (.var 3) (.cons (.tup (.cons (.ix (.ix (.var 1) (.var 2)) (.cint 0)) (.cons (.bi .tuple false (.cons (.var 6) .nil)) .nil))) .nil))) .skip))
theorem copies_body : f__law_copies.body = .seq (.asg (.tp (.cons (.nm 4) (.cons (.nm 5) .nil))) (.tup (.cons (.lst true (.cons (.cint 0) .nil)) (.cons (.lst true .nil) .nil)))) (.seq (.for_ .range1 (.cons (.bi .len false (.cons (.var 1) .nil)) .nil) (.nm 2) leftBody) (.seq (.whil (.cmp .NotEq (.var 5) (.lst false .nil)) popBody) (.seq (.asg (.nm 3) (.lst true .nil)) (.seq (.for_ .seq (.cons (.var 4) .nil) (.nm 2) copyBody) (.seq (.ret (.bi .tuple false (.cons (.var 3) .nil))) .skip))))) := rfl
/-- the prefix of the store is as at the start -/
def Pre (p q : Nat) (s0 s : Store) : Prop := s0.length ≤ s.length ∧ ∀ j : Nat, j < s0.length → j ≠ p → j ≠ q → s[j]? = s0[j]?
theorem Pre.sm {p q : Nat} {s0 s s' : Store} (h : Pre p q s0 s) (h2 : Sm p q s s') : Pre p q s0 s' := ⟨by have := h.1; have := h2.1; omega, fun j h1 i1 i2 => (h2.2 j i1 i2).trans (h.2 j h1 i1 i2)⟩
theorem Pre.app {p q : Nat} {s0 s : Store} (h : Pre p q s0 s) (r : Store) : Pre p q s0 (s ++ r) := ⟨by rw [List.length_append]; have := h.1; omega, fun j h1 i1 i2 => by rw [List.getElem?_append_left (by have := h.1; omega)]; exact h.2 j h1 i1 i2⟩
theorem Pre.set {p q i : Nat} {o : O} {s0 s : Store} (h : Pre p q s0 s) (hi : s0.length ≤ i) : Pre p q s0 (s.set i o) := ⟨by rw [List.length_set]; exact h.1, fun j h1 i1 i2 => by rw [List.getElem?_set_ne (by omega)]; exact h.2 j h1 i1 i2⟩
def LfP (n p q a4 : Nat) (rows : List D) (s0 : Store) (i : Nat) (σ : Sg) (s : Store) : Prop := ∃ (a5 : Nat) (o2 : Option D) (lf : List Nat),
  σ = [some (.loc p), some (.tup rows), o2, none, some (.loc a4), some (.loc a5), none, none, none] ∧ Pre p q s0 s ∧ s[a4]? = some (.lst [.int 0]) ∧ s[a5]? = some (.lst (lf.map nD)) ∧ s0.length ≤ a5 ∧ a5 ≠ a4 ∧
  (∀ x ∈ lf, x < i) ∧ (∀ x, 0 < x → x < i → x ∈ lf) ∧ lf.length ≤ 5 * i ∧ Dk (n + i) s p q
theorem left_loop {k n p q a4 a5 b : Nat} {rows : List D} {s0 s : Store} (hr : rows.length ≤ 30) (hd : Dk n s p q) (hn : n ≤ 10000) (hp : p < s0.length) (hpre : Pre p q s0 s) (h4 : s[a4]? = some (.lst [.int 0])) (h5 : s[a5]? = some (.lst [])) (h40 : s0.length ≤ a4) (h50 : s0.length ≤ a5) (h54 : a5 ≠ a4) :
    (ex ⟨Mi.run tb gs 10000 (k + 1), gs⟩ 10000 b (.for_ .range1 (.cons (.bi .len false (.cons (.var 1) .nil)) .nil) (.nm 2) leftBody) [some (.loc p), some (.tup rows), none, none, some (.loc a4), some (.loc a5), none, none, none] s).S fun f s' => ∃ σ2, f = .nx σ2 ∧ LfP n p q a4 rows s0 rows.length σ2 s' := by
  have hw : ((evA ⟨Mi.run tb gs 10000 (k + 1), gs⟩ b (.cons (.bi .len false (.cons (.var 1) .nil)) .nil) [some (.loc p), some (.tup rows), none, none, some (.loc a4), some (.loc a5), none, none, none] s).bind fun ds st0 => toW .range1 ds st0) = .ok (.items (rng 0 rows.length)) s := by
    have a1 : evA ⟨Mi.run tb gs 10000 (k + 1), gs⟩ b (.cons (.bi .len false (.cons (.var 1) .nil)) .nil) [some (.loc p), some (.tup rows), none, none, some (.loc a4), some (.loc a5), none, none, none] s = .ok [.int rows.length] s := by
      simp only [evA_cons, evA_nil, ev_bi, ev_var, getS_s, getS_z, some_some, bind_ok', List.map_cons, List.map_nil, der_tup, len_tup, fin_val]
    have a2 := toW_range1 (c := rows.length) (st := s) (by omega) (by omega)
    rw [Int.toNat_natCast] at a2
    exact bind_ok a1 a2
  have z := ex_for_items (R := ⟨Mi.run tb gs 10000 (k + 1), gs⟩) (fu := 10000) (b := b) (bd := leftBody) (t := .nm 2) (P := LfP n p q a4 rows s0) hw ⟨a5, none, [], rfl, hpre, h4, h5, h50, h54, fun _ h => (by cases h), fun x _ h => by omega, Nat.zero_le _, hd⟩ fun i x σ s1 hi hP => ?_
  · rw [rng_len] at z
    exact z
  obtain ⟨a5, o2, lf, rfl, g1, g2, g3, g4, g5, g6, g7, g8, g9⟩ := hP
  obtain ⟨him, rfl⟩ := rng_getp hi
  refine ⟨_, rfl, ?_⟩
  unfold leftBody
  have hlt := g9.lt
  have f1 : ∀ u : D, fits [u] = true := fun _ => rfl
  have f42 : ∀ s : Store, (PR.newL [D.int 4, .int 2]).fin false s = .ok (.lst [D.int 4, .int 2]) s := fun s => fin_lst rfl
  have fk : ∀ (u : D) (s : Store), (PR.newL [u]).fin false s = .ok (.lst [u]) s := fun u s => fin_lst rfl
  obtain ⟨lim, h0, h1, hx⟩ : ∃ lim : Nat, 0 < lim ∧ lim ≤ 4 ∧ ixD (.lst [.int 4, .int 2]) (.int (if decide (15 < (rows.length : Int)) = true then 1 else 0)) = .val (.int (lim : Int)) := by
    by_cases h : (15 : Int) < rows.length
    · exact ⟨2, by decide, by decide, by rw [if_pos (decide_eq_true h)]; rfl⟩
    · exact ⟨4, by decide, by decide, by rw [if_neg (by rw [decide_eq_false h]; exact Bool.false_ne_true)]; rfl⟩
  simp only [asgT, ev_var, ev_cint, ev_cstr, ev_cbl, ev_cnon, ev_gl, ev_bty, ev_val, ev_tup, ev_lst, ev_dnew, ev_bin, ev_neg, ev_cmp, ev_cmp2, ev_and, ev_or, ev_one, ev_not, ev_ite, ev_ix, ev_sl, ev_rev, ev_call, ev_callk, ev_bi, ev_me, evA_nil, evA_cons, evT_and, evT_or, evT_one, evT_not, evT_ite, evT_nil, evT_cmp, evT_cmp2, evT_cons, evT_val, evP_nil, evP_val, ex_skip, ex_seq, ex_asg, ex_par, ex_six, ex_aug, ex_ex, ex_ret, ex_retN, ex_ife, ex_brk, ex_cont, S_bind, S_ok, some_some, asB_bl, asI_int, getS_z, getS_s, der_non, der_bl, der_int, pder_str, der_tup, der_lst, pder_dct, der_ty, cmp_lt_i, cmp_le_i, cmp_gt_i, cmp_ge_i, cmp_eq_i, cmp_ne_i, cmp_lt_s, cmp_le_s, cmp_eq_s, cmp_ne_s, cmp_eq_l0, cmp_ne_l0, fin_val, fin_dct, len_tup, len_lst, List.getElem?_cons_succ, List.getElem?_cons_zero, List.set_cons_succ, List.set_cons_zero, List.map_cons, List.map_nil, List.replicate, List.cons_append, List.nil_append, if_true, if_false, ite_true, ite_false, Bool.not_true, Bool.not_false, Bool.false_eq_true, Option.map_some, fk, cmp_gt_i, int1_bl, f42, hx]
  refine draw_run (lim := lim) (k := k) g9 (by omega) h0 (by omega) fun y s2 hy hd2 hs2 => ?_
  obtain ⟨t, ht0, ht1, ht⟩ : ∃ t : Nat, (0 < i → 0 < t) ∧ t ≤ 5 ∧ binD .Add (.int (if decide (0 < (0 + (i : Int))) = true then 1 else 0)) (.int (y : Int)) = .val (.int (t : Int)) := by
    by_cases h : (0 : Int) < 0 + (i : Int)
    · exact ⟨1 + y, fun _ => by omega, by omega, by rw [if_pos (decide_eq_true h), bin_add]; rfl⟩
    · exact ⟨y, fun h' => by omega, by omega, by rw [if_neg (by rw [decide_eq_false h]; exact Bool.false_ne_true), bin_add, Int.zero_add]⟩
  have bg : big = 16777216 := rfl
  have mu : binD .Mult (.lst [.int (0 + (i : Int))]) (.int (t : Int)) = .newL ((List.replicate t i).map nD) := by
    rw [bin_mulL (by omega) (by omega) (by show 1 ≤ 1000; decide), rep_one, Int.toNat_natCast, List.map_replicate]
    unfold nD
    rw [Int.zero_add]
  have fr : fits ((List.replicate t i).map nD) = true := fits_of (by rw [List.length_map, List.length_replicate]; omega)
  have a5' : s2[a5]? = some (.lst (lf.map nD)) := by rw [hs2.2 a5 (by omega) (by omega)]; exact g3
  have fa : fits (lf.map nD ++ (List.replicate t i).map nD) = true := fits_of (by rw [List.length_append, List.length_map, List.length_map, List.length_replicate]; omega)
  simp only [ev_var, ev_cint, ev_cstr, ev_cbl, ev_cnon, ev_gl, ev_bty, ev_val, ev_tup, ev_lst, ev_dnew, ev_bin, ev_neg, ev_cmp, ev_cmp2, ev_and, ev_or, ev_one, ev_not, ev_ite, ev_ix, ev_sl, ev_rev, ev_call, ev_callk, ev_bi, ev_me, evA_nil, evA_cons, evT_and, evT_or, evT_one, evT_not, evT_ite, evT_nil, evT_cmp, evT_cmp2, evT_cons, evT_val, evP_nil, evP_val, ex_skip, ex_seq, ex_asg, ex_par, ex_six, ex_aug, ex_ex, ex_ret, ex_retN, ex_ife, ex_brk, ex_cont, S_bind, S_ok, some_some, asB_bl, asI_int, getS_z, getS_s, der_non, der_bl, der_int, pder_str, der_tup, der_lst, pder_dct, der_ty, cmp_lt_i, cmp_le_i, cmp_gt_i, cmp_ge_i, cmp_eq_i, cmp_ne_i, cmp_lt_s, cmp_le_s, cmp_eq_s, cmp_ne_s, cmp_eq_l0, cmp_ne_l0, fin_val, fin_dct, len_tup, len_lst, List.getElem?_cons_succ, List.getElem?_cons_zero, List.set_cons_succ, List.set_cons_zero, List.map_cons, List.map_nil, List.replicate, List.cons_append, List.nil_append, if_true, if_false, ite_true, ite_false, Bool.not_true, Bool.not_false, Bool.false_eq_true, Option.map_some, ht, mu, fin_lst fr, der_locL a5', bin_addL, fin_lstO fa, asgT]
  have l2 := hs2.1
  have h4l : a4 < s1.length := (List.getElem?_eq_some_iff.mp g2).1
  refine ⟨_, rfl, s2.length, _, lf ++ List.replicate t i, rfl, (g1.sm hs2).app _, ?_, by rw [List.map_append]; simp, by have := g1.1; omega, by omega, fun x hx => ?_, fun x hx0 hx1 => ?_, by rw [List.length_append, List.length_replicate]; omega, ?_⟩
  · rw [List.getElem?_append_left (by omega), hs2.2 a4 (by omega) (by omega)]
    exact g2
  · rcases List.mem_append.mp hx with hx | hx
    · have := g6 x hx; omega
    · rw [List.eq_of_mem_replicate hx]; omega
  · by_cases hxi : x < i
    · exact List.mem_append_left _ (g7 x hx0 hxi)
    · have e : x = i := by omega
      subst e
      exact List.mem_append_right _ (List.mem_replicate.mpr ⟨by have := ht0 hx0; omega, rfl⟩)
  · rw [← Nat.add_assoc]
    exact hd2.app _
end K01
end
section
open PySem L2 Mi
namespace K01
def WhP (n p q a4 a5 N T : Nat) (s0 : Store) (rows : List D) (o2 : Option D) (m : Nat) (σ : Sg) (s : Store) : Prop := ∃ (sp lf : List Nat),
  σ = [some (.loc p), some (.tup rows), o2, none, some (.loc a4), some (.loc a5), none, none, none] ∧ Pre p q s0 s ∧ s[a4]? = some (.lst (sp.map nD)) ∧ s[a5]? = some (.lst (lf.map nD)) ∧ lf.length = m ∧ sp.length + m = T + 1 ∧
  (∀ x ∈ sp, x < N) ∧ (∀ x ∈ lf, x < N) ∧ (∀ x, x < N → x ∈ sp ∨ x ∈ lf) ∧ Dk (n + sp.length) s p q
theorem pop_loop {k n p q a4 a5 N T b : Nat} {rows : List D} {o2 : Option D} {s0 s : Store} (hp : p < s0.length) (hq : q < s0.length) (h40 : s0.length ≤ a4) (h50 : s0.length ≤ a5) (h54 : a5 ≠ a4) (hb4 : b ≤ a4) (hb5 : b ≤ a5) (hn : n ≤ 10000) (hT : T ≤ 1000) (h : WhP n p q a4 a5 N T s0 rows o2 T [some (.loc p), some (.tup rows), o2, none, some (.loc a4), some (.loc a5), none, none, none] s) :
    (ex ⟨Mi.run tb gs 10000 (k + 1), gs⟩ 10000 b (.whil (.cmp .NotEq (.var 5) (.lst false .nil)) popBody) [some (.loc p), some (.tup rows), o2, none, some (.loc a4), some (.loc a5), none, none, none] s).S fun f s' => ∃ σ2, f = .nx σ2 ∧ WhP n p q a4 a5 N T s0 rows o2 0 σ2 s' := by
  rw [ex_whil]
  have f0 : fits ([] : List D) = true := rfl
  refine whileF_inv (P := WhP n p q a4 a5 N T s0 rows o2) (fun m σ st hP => ?_) (fun m σ st hP => ?_) 10000 T _ _ (by omega) h
  · obtain ⟨sp, lf, rfl, g1, g2, g3, g4, g5, g6, g7, g8, g9⟩ := hP
    have c1 : cmpS .NotEq st (.loc a5) (.lst []) = some (!(lf.map nD).isEmpty) := cmp_ne_L0 g3
    have e : (!(lf.map nD).isEmpty) = decide (0 < m) := by
      rw [List.isEmpty_map, ← g4]
      cases lf <;> simp
    simp only [evT_cmp, ev_var, ev_lst, evA_nil, getS_s, getS_z, some_some, bind_ok', fin_lst f0, c1, e]
  · obtain ⟨sp, lf, rfl, g1, g2, g3, g4, g5, g6, g7, g8, g9⟩ := hP
    unfold popBody
    have ka : ∀ xs : List D, isK .append (.lst xs) = true := fun _ => rfl
    have kp : ∀ xs : List D, isK .popi (.lst xs) = true := fun _ => rfl
    have hlt := g9.lt
    have l1 : (lf.map nD).length = m + 1 := by rw [List.length_map, g4]
    simp only [ev_var, ev_cint, ev_cstr, ev_cbl, ev_cnon, ev_gl, ev_bty, ev_val, ev_tup, ev_lst, ev_dnew, ev_bin, ev_neg, ev_cmp, ev_cmp2, ev_and, ev_or, ev_one, ev_not, ev_ite, ev_ix, ev_sl, ev_rev, ev_call, ev_callk, ev_bi, ev_me, evA_nil, evA_cons, evT_and, evT_or, evT_one, evT_not, evT_ite, evT_nil, evT_cmp, evT_cmp2, evT_cons, evT_val, evP_nil, evP_val, ex_skip, ex_seq, ex_asg, ex_par, ex_six, ex_aug, ex_ex, ex_ret, ex_retN, ex_ife, ex_brk, ex_cont, S_bind, S_ok, some_some, asB_bl, asI_int, getS_z, getS_s, der_non, der_bl, der_int, pder_str, der_tup, der_lst, pder_dct, der_ty, cmp_lt_i, cmp_le_i, cmp_gt_i, cmp_ge_i, cmp_eq_i, cmp_ne_i, cmp_lt_s, cmp_le_s, cmp_eq_s, cmp_ne_s, cmp_eq_l0, cmp_ne_l0, fin_val, fin_dct, len_tup, len_lst, List.getElem?_cons_succ, List.getElem?_cons_zero, List.set_cons_succ, List.set_cons_zero, List.map_cons, List.map_nil, List.replicate, List.cons_append, List.nil_append, if_true, if_false, ite_true, ite_false, Bool.not_true, Bool.not_false, Bool.false_eq_true, Option.map_some, der_locL g2, der_locL g3, ka, kp, l1]
    refine draw_run (lim := m + 1) (k := k) g9 (by omega) (by omega) (by omega) fun j s2 hj hd2 hs2 => ?_
    have e4 : s2[a4]? = some (.lst (sp.map nD)) := by rw [hs2.2 a4 (by omega) (by omega)]; exact g2
    have e5 : s2[a5]? = some (.lst (lf.map nD)) := by rw [hs2.2 a5 (by omega) (by omega)]; exact g3
    obtain ⟨y, hy⟩ : ∃ y, lf[j]? = some y := ⟨_, List.getElem?_eq_getElem (by omega)⟩
    have po : meD b s2 .popi (.loc a5) [.int (j : Int)] = .ok (.val (nD y)) (s2.set a5 (.lst ((lf.eraseIdx j).map nD))) := by
      rw [meD_loc e5]
      refine meL_popi (by rw [List.getElem?_map, hy]; rfl) (by rw [l1]; omega) ?_
      rw [wr_new e5 (fun z => by cases z) hb5]
      have em : (lf.map nD).eraseIdx j = (lf.eraseIdx j).map nD := by
        rw [List.eraseIdx_eq_take_drop_succ, List.eraseIdx_eq_take_drop_succ, List.map_append, List.map_take, List.map_drop]
      rw [em]
    generalize hs3 : s2.set a5 (.lst ((lf.eraseIdx j).map nD)) = s3 at po
    have l2 : a5 < s2.length := (List.getElem?_eq_some_iff.mp e5).1
    have l24 : a4 < s2.length := (List.getElem?_eq_some_iff.mp e4).1
    have e34 : s3[a4]? = some (.lst (sp.map nD)) := by rw [← hs3, List.getElem?_set_ne h54]; exact e4
    have e35 : s3[a5]? = some (.lst ((lf.eraseIdx j).map nD)) := by rw [← hs3, List.getElem?_set_self l2]
    have ap : meD b s3 .append (.loc a4) [nD y] = .ok (.val .non) (s3.set a4 (.lst ((sp ++ [y]).map nD))) := by
      rw [meD_loc e34]
      refine meL_append (by rw [List.length_map]; omega) ?_
      rw [wr_new e34 (fun z => by cases z) hb4, List.map_append]
      rfl
    simp only [ev_var, ev_cint, ev_cstr, ev_cbl, ev_cnon, ev_gl, ev_bty, ev_val, ev_tup, ev_lst, ev_dnew, ev_bin, ev_neg, ev_cmp, ev_cmp2, ev_and, ev_or, ev_one, ev_not, ev_ite, ev_ix, ev_sl, ev_rev, ev_call, ev_callk, ev_bi, ev_me, evA_nil, evA_cons, evT_and, evT_or, evT_one, evT_not, evT_ite, evT_nil, evT_cmp, evT_cmp2, evT_cons, evT_val, evP_nil, evP_val, ex_skip, ex_seq, ex_asg, ex_par, ex_six, ex_aug, ex_ex, ex_ret, ex_retN, ex_ife, ex_brk, ex_cont, S_bind, S_ok, some_some, asB_bl, asI_int, getS_z, getS_s, der_non, der_bl, der_int, pder_str, der_tup, der_lst, pder_dct, der_ty, cmp_lt_i, cmp_le_i, cmp_gt_i, cmp_ge_i, cmp_eq_i, cmp_ne_i, cmp_lt_s, cmp_le_s, cmp_eq_s, cmp_ne_s, cmp_eq_l0, cmp_ne_l0, fin_val, fin_dct, len_tup, len_lst, List.getElem?_cons_succ, List.getElem?_cons_zero, List.set_cons_succ, List.set_cons_zero, List.map_cons, List.map_nil, List.replicate, List.cons_append, List.nil_append, if_true, if_false, ite_true, ite_false, Bool.not_true, Bool.not_false, Bool.false_eq_true, Option.map_some, po, ap]
    have l3 : s3.length = s2.length := by rw [← hs3, List.length_set]
    refine ⟨_, rfl, sp ++ [y], lf.eraseIdx j, rfl, ?_, List.getElem?_set_self (by omega), by rw [List.getElem?_set_ne (Ne.symm h54)]; exact e35, by rw [List.length_eraseIdx_of_lt (by omega), g4]; omega, by rw [List.length_append, List.length_singleton]; omega, fun x hx => ?_, fun x hx => g7 x (List.mem_of_mem_eraseIdx hx), fun x hx => ?_, ?_⟩
    · rw [← hs3]
      exact ((g1.sm hs2).set h50).set h40
    · rcases List.mem_append.mp hx with hx | hx
      · exact g6 x hx
      · rw [List.mem_singleton.mp hx]
        exact g7 y (List.mem_of_getElem? hy)
    · rcases g8 x hx with h | h
      · exact .inl (List.mem_append_left _ h)
      · rcases mem_erase hy h with h | h
        · exact .inl (List.mem_append_right _ (by rw [h]; exact List.mem_cons_self))
        · exact .inr h
    · rw [← hs3]
      exact ((hd2.mono (by rw [List.length_append, List.length_singleton]; omega)).set (by omega) (by omega)).set (by omega) (by omega)
def spB (sp : List Nat) (f : Nat) (d : D) : Bool := match d with
  | .int i => decide (sp[i.toNat]? = some f)
  | _ => false
abbrev csg (p : Nat) (rows : List D) (k a3 a4 a5 : Nat) (o6 o7 o8 : Option D) : Sg := [some (.loc p), some (.tup rows), some (.int (k : Int)), some (.loc a3), some (.loc a4), some (.loc a5), o6, o7, o8]
theorem spot_ev {R : Rt} {b p k a3 a4 a5 f : Nat} {rows : List D} {sp : List Nat} {o6 o8 : Option D} {s : Store} (h4 : s[a4]? = some (.lst (sp.map nD))) (hl : sp.length ≤ 1000) :
    ev R b spotE (csg p rows k a3 a4 a5 o6 (some (nD f)) o8) s = .ok (.loc s.length) (s ++ [O.lst ((rng 0 sp.length).filter (spB sp f))]) := by
  unfold spotE
  have hw : ((evA R b (.cons (.bi .len false (.cons (.var 4) .nil)) .nil) (csg p rows k a3 a4 a5 o6 (some (nD f)) o8) s).bind fun ds st0 => toW .range1 ds st0) = .ok (.items (rng 0 sp.length)) s := by
    have a1 : evA R b (.cons (.bi .len false (.cons (.var 4) .nil)) .nil) (csg p rows k a3 a4 a5 o6 (some (nD f)) o8) s = .ok [.int sp.length] s := by
      simp only [csg, evA_cons, evA_nil, ev_bi, ev_var, getS_s, getS_z, some_some, bind_ok', List.map_cons, List.map_nil, der_locL h4, len_lst, fin_val, List.length_map]
    have a2 := toW_range1 (c := sp.length) (st := s) (by omega) (by omega)
    rw [Int.toNat_natCast] at a2
    exact bind_ok a1 a2
  have e := S_lc (R := R) (b := b) (t := .nm 8) (ts := .cons (.cmp .Eq (.ix (.var 4) (.var 8)) (.var 7)) .nil) (e := .var 8) (vs := [8]) (F := fun d => d) (P := spB sp f) hw (by rw [rng_len]; omega) fun x hx acc => ?_
  · rw [List.map_id'] at e
    exact e
  obtain ⟨i, hi, rfl⟩ := rng_mem hx
  refine ⟨csg p rows k a3 a4 a5 o6 (some (nD f)) (some (.int (0 + (i : Int)))), rfl, ?_, fun _ => ?_⟩
  · have h4' : (s ++ [O.lst acc])[a4]? = some (.lst (sp.map nD)) := by rw [List.getElem?_append_left (List.getElem?_eq_some_iff.mp h4).1]; exact h4
    obtain ⟨g, hg⟩ : ∃ g, sp[i]? = some g := ⟨_, List.getElem?_eq_getElem hi⟩
    have ix : ixD (.lst (sp.map nD)) (.int (0 + (i : Int))) = .val (nD g) := by
      rw [Int.zero_add]
      exact ix_nat (by rw [List.getElem?_map, hg]; rfl)
    have eb : spB sp f (.int (0 + (i : Int))) = decide ((g : Int) = (f : Int)) := by
      show decide (sp[(0 + (i : Int)).toNat]? = some f) = _
      rw [Int.zero_add, Int.toNat_natCast, hg, decide_eq_decide]
      constructor
      · intro z; injection z with z; rw [z]
      · intro z; rw [Int.ofNat_inj.mp z]
    rw [eb]
    have cm : ∀ s : Store, cmpS .Eq s (nD g) (nD f) = some (decide ((g : Int) = (f : Int))) := fun s => cmp_eq_i
    simp only [csg, evT_cons, evT_cmp, ev_ix, ev_var, getS_s, getS_z, some_some, bind_ok', der_locL h4', ix, fin_val, cm]
  · simp only [csg, ev_var, getS_s, getS_z, some_some]
def FdP (n p q M : Nat) (s0 : Store) (i : Nat) (acc : List D) (s : Store) : Prop := s0.length + 1 ≤ s.length ∧ s[s0.length]? = some (.lst acc) ∧ (∃ is : List Nat, acc = is.map nD ∧ is.length = i ∧ ∀ x ∈ is, x < M) ∧ Dk (n + i) s p q ∧ ∀ j : Nat, j < s0.length → j ≠ p → j ≠ q → s[j]? = s0[j]?
theorem fields_lc {k n p q kk a3 a4 a5 b : Nat} {nm : Str} {fs : List Nat} {rows : List D} {sp : List Nat} {o6 o7 o8 : Option D} {s0 : Store} (hd : Dk n s0 p q) (hn : n ≤ 100000) (hrow : rows[kk]? = some (rwD (nm, fs))) (hf : fs.length ≤ 3) (hsp : ∀ f ∈ fs, f ∈ sp) (h4 : s0[a4]? = some (.lst (sp.map nD))) (hl : sp.length ≤ 1000) (hp4 : p ≠ a4) (hq4 : q ≠ a4) :
    (ev ⟨Mi.run tb gs 10000 (k + 2), gs⟩ b (.lc .seq (.cons (.ix (.ix (.var 1) (.var 2)) (.cint 1)) .nil) (.nm 7) .nil fieldE [7]) (csg p rows kk a3 a4 a5 o6 o7 o8) s0).S fun d s => d = .loc s0.length ∧ ∃ acc, FdP n p q sp.length s0 fs.length acc s := by
  have hp := hd.lt
  have h4l := (List.getElem?_eq_some_iff.mp h4).1
  have hw : ((evA ⟨Mi.run tb gs 10000 (k + 2), gs⟩ b (.cons (.ix (.ix (.var 1) (.var 2)) (.cint 1)) .nil) (csg p rows kk a3 a4 a5 o6 o7 o8) s0).bind fun ds st0 => toW .seq ds st0) = .ok (.items (fs.map nD)) s0 := by
    have i1 : ixD (rwD (nm, fs)) (.int 1) = .val (.tup (fs.map nD)) := rfl
    have dr : der s0 (rwD (nm, fs)) = rwD (nm, fs) := rfl
    have a1 : evA ⟨Mi.run tb gs 10000 (k + 2), gs⟩ b (.cons (.ix (.ix (.var 1) (.var 2)) (.cint 1)) .nil) (csg p rows kk a3 a4 a5 o6 o7 o8) s0 = .ok [.tup (fs.map nD)] s0 := by
      simp only [csg, evA_cons, evA_nil, ev_ix, ev_var, ev_cint, getS_s, getS_z, some_some, bind_ok', der_tup, ixT_nat hrow, fin_val, dr, i1]
    exact bind_ok a1 (toW_items rfl)
  have hb : FdP n p q sp.length s0 0 [] (s0 ++ [O.lst []]) := ⟨by simp, by simp, ⟨[], rfl, rfl, fun _ h => by cases h⟩, hd.app _, fun j hj _ _ => by rw [List.getElem?_append_left hj]⟩
  have z := S_lcI (R := ⟨Mi.run tb gs 10000 (k + 2), gs⟩) (b := b) (t := .nm 7) (e := fieldE) (vs := [7]) hw hb fun j x acc s hj hP => ?_
  · rw [List.length_map] at z
    exact z
  obtain ⟨g1, g2, ⟨is, rfl, g4, g5⟩, g6, g7⟩ := hP
  rw [List.getElem?_map] at hj
  cases hfj : fs[j]? with
  | none => rw [hfj] at hj; cases hj
  | some f =>
  rw [hfj] at hj
  cases hj
  have hjl : j < fs.length := (List.getElem?_eq_some_iff.mp hfj).1
  refine ⟨csg p rows kk a3 a4 a5 o6 (some (nD f)) o8, rfl, ?_⟩
  unfold fieldE
  have h4' : s[a4]? = some (.lst (sp.map nD)) := by rw [g7 a4 h4l (Ne.symm hp4) (Ne.symm hq4)]; exact h4
  have e1 := spot_ev (R := ⟨Mi.run tb gs 10000 (k + 2), gs⟩) (b := b) (p := p) (k := kk) (a3 := a3) (a5 := a5) (rows := rows) (f := f) (o6 := o6) (o8 := o8) h4' hl
  simp only [csg] at e1
  simp only [ev_var, ev_cint, ev_cstr, ev_cbl, ev_cnon, ev_gl, ev_bty, ev_val, ev_tup, ev_lst, ev_dnew, ev_bin, ev_neg, ev_cmp, ev_cmp2, ev_and, ev_or, ev_one, ev_not, ev_ite, ev_ix, ev_sl, ev_rev, ev_call, ev_callk, ev_bi, ev_me, evA_nil, evA_cons, evT_and, evT_or, evT_one, evT_not, evT_ite, evT_nil, evT_cmp, evT_cmp2, evT_cons, evT_val, evP_nil, evP_val, ex_skip, ex_seq, ex_asg, ex_par, ex_six, ex_aug, ex_ex, ex_ret, ex_retN, ex_ife, ex_brk, ex_cont, S_bind, S_ok, some_some, asB_bl, asI_int, getS_z, getS_s, der_non, der_bl, der_int, pder_str, der_tup, der_lst, pder_dct, der_ty, cmp_lt_i, cmp_le_i, cmp_gt_i, cmp_ge_i, cmp_eq_i, cmp_ne_i, cmp_lt_s, cmp_le_s, cmp_eq_s, cmp_ne_s, cmp_eq_l0, cmp_ne_l0, fin_val, fin_dct, len_tup, len_lst, List.getElem?_cons_succ, List.getElem?_cons_zero, List.set_cons_succ, List.set_cons_zero, List.map_cons, List.map_nil, List.replicate, List.cons_append, List.nil_append, if_true, if_false, ite_true, ite_false, Bool.not_true, Bool.not_false, Bool.false_eq_true, Option.map_some, csg, bind_ok', e1]
  obtain ⟨i, hi⟩ := List.getElem?_of_mem (hsp f (List.mem_of_getElem? hfj))
  have hil := (List.getElem?_eq_some_iff.mp hi).1
  have hne : (rng 0 sp.length).filter (spB sp f) ≠ [] := by
    intro z
    have hm : D.int (0 + (i : Int)) ∈ (rng 0 sp.length).filter (spB sp f) := by
      refine List.mem_filter.mpr ⟨by unfold rng; exact List.mem_map.mpr ⟨i, List.mem_range.mpr hil, rfl⟩, ?_⟩
      show decide (sp[(0 + (i : Int)).toNat]? = some f) = true
      rw [Int.zero_add, Int.toNat_natCast, hi]
      exact decide_eq_true rfl
    rw [z] at hm
    cases hm
  have hfl := List.length_filter_le (spB sp f) (rng 0 sp.length)
  rw [rng_len] at hfl
  have gl : (s ++ [O.lst ((rng 0 sp.length).filter (spB sp f))])[s.length]? = some (.lst ((rng 0 sp.length).filter (spB sp f))) := by simp
  refine pick_run (k := k) (g6.app _) (by omega) (.inr ⟨s.length, rfl, gl, by omega, by omega⟩) (List.length_pos_iff.mpr hne) (by omega) (fun x hx => ?_) fun x s2 hx hd2 hs2 => ?_
  · obtain ⟨i, _, rfl⟩ := rng_mem (List.mem_filter.mp hx).1
    rfl
  · obtain ⟨m, hm, rfl⟩ := rng_mem (List.mem_filter.mp hx).1
    have l2 := hs2.1
    rw [List.length_append, List.length_singleton] at l2
    have hg2 : s2[s0.length]? = some (.lst (is.map nD)) := by rw [hs2.2 _ (by omega) (by omega), List.getElem?_append_left (by omega)]; exact g2
    refine ⟨hg2, by rw [List.length_map]; omega, by rw [List.length_set]; omega, List.getElem?_set_self (by omega), ⟨is ++ [m], by rw [List.map_append, Int.zero_add]; rfl, by rw [List.length_append, g4]; rfl, fun x hx => ?_⟩, hd2.set (by omega) (by omega), fun j hj j1 j2 => ?_⟩
    · rcases List.mem_append.mp hx with hx | hx
      · exact g5 x hx
      · rw [List.mem_singleton.mp hx]; exact hm
    · rw [List.getElem?_set_ne (by omega), hs2.2 j j1 j2, List.getElem?_append_left (by omega)]
      exact g7 j hj j1 j2
end K01
end
section
open PySem L2 Mi
namespace K01
/-- rows of small numbers -/
structure Cps (rs : List (Str × List Nat)) : Prop where
  le : rs.length ≤ 200
  ok : ∀ r ∈ rs, r.1 ∈ NM ∧ r.2.length ≤ 3 ∧ ∀ x ∈ r.2, x < 1000
def CpP (n p q a3 a4 a5 : Nat) (s0 : Store) (rows : List D) (sp : List Nat) (i : Nat) (σ : Sg) (s : Store) : Prop := ∃ (o2 o6 o7 o8 : Option D) (acc : List (Str × List Nat)),
  σ = [some (.loc p), some (.tup rows), o2, some (.loc a3), some (.loc a4), some (.loc a5), o6, o7, o8] ∧ Pre p q s0 s ∧ s[a4]? = some (.lst (sp.map nD)) ∧ s[a3]? = some (.lst (acc.map rwD)) ∧ acc.length = i ∧ (∀ r ∈ acc, r.1 ∈ NM ∧ r.2.length ≤ 3 ∧ ∀ x ∈ r.2, x < 1000) ∧ Dk (n + 3 * i) s p q
theorem copy_loop {k n p q a3 a4 a5 N b : Nat} {l : List (Str × Nat)} {rs : List (Str × List Nat)} {sp : List Nat} {o2 : Option D} {s0 s : Store} (hl : Tags l) (hr : ∀ r ∈ rs, RowOk l rs.length r) (hsp : ∀ x ∈ sp, x < rs.length) (hall : ∀ x, x < rs.length → x ∈ sp) (hsl : sp.length ≤ 200) (hp : p < s0.length) (hq : q < s0.length) (h30 : s0.length ≤ a3) (h40 : s0.length ≤ a4) (h34 : a3 ≠ a4) (hb : b ≤ a3) (hn : n ≤ 10000) (hd : Dk n s p q) (hpre : Pre p q s0 s) (h4 : s[a4]? = some (.lst (sp.map nD))) (h3 : s[a3]? = some (.lst [])) :
    (ex ⟨Mi.run tb gs 10000 (k + 2), gs⟩ 10000 b (.for_ .seq (.cons (.var 4) .nil) (.nm 2) copyBody) [some (.loc p), some (.tup (rs.map rwD)), o2, some (.loc a3), some (.loc a4), some (.loc a5), none, none, none] s).S fun f s' => ∃ σ2, f = .nx σ2 ∧ CpP n p q a3 a4 a5 s0 (rs.map rwD) sp sp.length σ2 s' := by
  have a1 : evA ⟨Mi.run tb gs 10000 (k + 2), gs⟩ b (.cons (.var 4) .nil) [some (.loc p), some (.tup (rs.map rwD)), o2, some (.loc a3), some (.loc a4), some (.loc a5), none, none, none] s = .ok [.loc a4] s := by
    simp only [evA_cons, evA_nil, ev_var, getS_s, getS_z, some_some, bind_ok']
  have z := ex_for_loc (R := ⟨Mi.run tb gs 10000 (k + 2), gs⟩) (fu := 10000) (b := b) (bd := copyBody) (t := .nm 2) (P := CpP n p q a3 a4 a5 s0 (rs.map rwD) sp) (xs := sp.map nD) (bind_ok a1 (toW_loc h4)) (fun i σ s hP => by obtain ⟨_, _, _, _, _, _, _, h, _⟩ := hP; exact h) ⟨o2, none, none, none, [], rfl, hpre, h4, h3, rfl, fun _ h => (by cases h), hd⟩ fun j x σ s1 hj hP => ?_
  · rw [List.length_map] at z
    exact z
  obtain ⟨o2, o6, o7, o8, acc, rfl, g1, g2, g3, g4, g5, g6⟩ := hP
  rw [List.getElem?_map] at hj
  cases hkj : sp[j]? with
  | none => rw [hkj] at hj; cases hj
  | some kk =>
  rw [hkj] at hj
  cases hj
  have hjl : j < sp.length := (List.getElem?_eq_some_iff.mp hkj).1
  have hkn := hsp kk (List.mem_of_getElem? hkj)
  obtain ⟨r, hrk⟩ : ∃ r, rs[kk]? = some r := ⟨_, List.getElem?_eq_getElem hkn⟩
  obtain ⟨nm, fs⟩ := r
  have hrow : (rs.map rwD)[kk]? = some (rwD (nm, fs)) := by rw [List.getElem?_map, hrk]; rfl
  have hro := hr _ (List.mem_of_getElem? hrk)
  obtain ⟨hnm, hf3⟩ := hro.nm hl
  replace hf3 : fs.length ≤ 3 := hf3
  replace hnm : nm ∈ NM := hnm
  refine ⟨csg p (rs.map rwD) kk a3 a4 a5 o6 o7 o8, rfl, ?_⟩
  unfold copyBody
  rw [ex_seq, S_bind, ex_asgc, S_bind]
  refine S_mono (fields_lc (k := k) (b := b) g6 (by omega) hrow hf3 (fun f hf => hall f (hro.2 f hf)) g2 (by omega) (by omega) (by omega)) fun d s2 hds => ?_
  obtain ⟨rfl, ac, e1, e2, ⟨is, rfl, e4, e5⟩, e6, e7⟩ := hds
  have h3l : a3 < s1.length := (List.getElem?_eq_some_iff.mp g3).1
  have h4l : a4 < s1.length := (List.getElem?_eq_some_iff.mp g2).1
  have e3' : s2[a3]? = some (.lst (acc.map rwD)) := by rw [e7 a3 h3l (by omega) (by omega)]; exact g3
  have e4' : s2[a4]? = some (.lst (sp.map nD)) := by rw [e7 a4 h4l (by omega) (by omega)]; exact g2
  have ka : ∀ xs : List D, isK .append (.lst xs) = true := fun _ => rfl
  have i0 : ixD (rwD (nm, fs)) (.int 0) = .val (.str nm) := rfl
  have dr : ∀ s, der s (rwD (nm, fs)) = rwD (nm, fs) := fun _ => rfl
  have tp : biD .tuple [.lst (is.map nD)] = .val (.tup (is.map nD)) := rfl
  have f2 : ∀ u v : D, fits [u, v] = true := fun _ _ => rfl
  have er : D.tup [.str nm, .tup (is.map nD)] = rwD (nm, is) := rfl
  have ap : meD b s2 .append (.loc a3) [rwD (nm, is)] = .ok (.val .non) (s2.set a3 (.lst ((acc ++ [(nm, is)]).map rwD))) := by
    rw [meD_loc e3']
    refine meL_append (by rw [List.length_map]; omega) ?_
    rw [wr_new e3' (fun z => by cases z) hb, List.map_append]
    rfl
  simp only [ev_var, ev_cint, ev_cstr, ev_cbl, ev_cnon, ev_gl, ev_bty, ev_val, ev_tup, ev_lst, ev_dnew, ev_bin, ev_neg, ev_cmp, ev_cmp2, ev_and, ev_or, ev_one, ev_not, ev_ite, ev_ix, ev_sl, ev_rev, ev_call, ev_callk, ev_bi, ev_me, evA_nil, evA_cons, evT_and, evT_or, evT_one, evT_not, evT_ite, evT_nil, evT_cmp, evT_cmp2, evT_cons, evT_val, evP_nil, evP_val, ex_skip, ex_seq, ex_asg, ex_par, ex_six, ex_aug, ex_ex, ex_ret, ex_retN, ex_ife, ex_brk, ex_cont, S_bind, S_ok, some_some, asB_bl, asI_int, getS_z, getS_s, der_non, der_bl, der_int, pder_str, der_tup, der_lst, pder_dct, der_ty, cmp_lt_i, cmp_le_i, cmp_gt_i, cmp_ge_i, cmp_eq_i, cmp_ne_i, cmp_lt_s, cmp_le_s, cmp_eq_s, cmp_ne_s, cmp_eq_l0, cmp_ne_l0, fin_val, fin_dct, len_tup, len_lst, List.getElem?_cons_succ, List.getElem?_cons_zero, List.set_cons_succ, List.set_cons_zero, List.map_cons, List.map_nil, List.replicate, List.cons_append, List.nil_append, if_true, if_false, ite_true, ite_false, Bool.not_true, Bool.not_false, Bool.false_eq_true, Option.map_some, csg, der_locL e3', ka, ixT_nat hrow, dr, i0, der_locL e2, tp, f2, er, ap]
  have := g1.1
  refine ⟨_, rfl, _, _, _, _, acc ++ [(nm, is)], rfl, ?_, by rw [List.getElem?_set_ne h34]; exact e4', List.getElem?_set_self (by omega), by rw [List.length_append, g4]; rfl, fun r hr' => ?_, (e6.mono (by omega)).set (by omega) (by omega)⟩
  · refine Pre.set ⟨by omega, fun i hi i1 i2 => ?_⟩ h30
    rw [e7 i (by omega) i1 i2]
    exact g1.2 i hi i1 i2
  · rcases List.mem_append.mp hr' with hr' | hr'
    · exact g5 r hr'
    · rw [List.mem_singleton.mp hr']
      exact ⟨hnm, by show is.length ≤ 3; omega, fun x hx => by have := e5 x hx; omega⟩
theorem copies_run {k n p q b : Nat} {l : List (Str × Nat)} {rs : List (Str × List Nat)} {st : Store} {Q : D → Store → Prop} (h : Dk n st p q) (hn : n ≤ 4000) (hl : Tags l) (hr : Rows l rs) (hQ : ∀ (cs : List (Str × List Nat)) (s : Store), Cps cs → Dk (n + 600) s p q → Sm p q st s → Q (.tup (cs.map rwD)) s) :
    (Mi.run tb gs 10000 (k+3) 13 [.loc p, .tup (rs.map rwD)] b st).S Q := by
  have hp := h.lt
  refine S_run (fn := f__law_copies) rfl rfl ?_
  rw [copies_body]
  have hgc : f__law_copies.gc = true := rfl
  have hnp : f__law_copies.nl = 7 := rfl
  rw [hgc, hnp]
  have f0 : fits ([] : List D) = true := rfl
  have f2 : ∀ u v : D, fits [u, v] = true := fun _ _ => rfl
  have fz : ∀ s : Store, (PR.newL [D.int 0]).fin true s = .ok (.loc s.length) (s ++ [O.lst [.int 0]]) := fun s => fin_lstO rfl
  generalize hs1 : st ++ [O.lst [.int 0]] = s1
  generalize hs2 : s1 ++ [O.lst []] = s2
  have l1 : s1.length = st.length + 1 := by rw [← hs1]; simp
  have l2 : s2.length = st.length + 2 := by rw [← hs2]; simp [l1]
  have hd2 : Dk n s2 p q := by rw [← hs2, ← hs1]; exact (h.app _).app _
  have hpre2 : Pre p q st s2 := by rw [← hs2, ← hs1]; exact Pre.app (Pre.app ⟨Nat.le_refl _, fun _ _ _ _ => rfl⟩ _) _
  have g4 : s2[st.length]? = some (.lst [.int 0]) := by rw [← hs2, List.getElem?_append_left (by omega), ← hs1]; simp
  have g5 : s2[s1.length]? = some (.lst []) := by rw [← hs2]; simp
  have hrl : (rs.map rwD).length = rs.length := List.length_map _
  have hr24 := hr.le
  simp only [ev_var, ev_cint, ev_cstr, ev_cbl, ev_cnon, ev_gl, ev_bty, ev_val, ev_tup, ev_lst, ev_dnew, ev_bin, ev_neg, ev_cmp, ev_cmp2, ev_and, ev_or, ev_one, ev_not, ev_ite, ev_ix, ev_sl, ev_rev, ev_call, ev_callk, ev_bi, ev_me, evA_nil, evA_cons, evT_and, evT_or, evT_one, evT_not, evT_ite, evT_nil, evT_cmp, evT_cmp2, evT_cons, evT_val, evP_nil, evP_val, ex_skip, ex_seq, ex_asg, ex_par, ex_six, ex_aug, ex_ex, ex_ret, ex_retN, ex_ife, ex_brk, ex_cont, S_bind, S_ok, some_some, asB_bl, asI_int, getS_z, getS_s, der_non, der_bl, der_int, pder_str, der_tup, der_lst, pder_dct, der_ty, cmp_lt_i, cmp_le_i, cmp_gt_i, cmp_ge_i, cmp_eq_i, cmp_ne_i, cmp_lt_s, cmp_le_s, cmp_eq_s, cmp_ne_s, cmp_eq_l0, cmp_ne_l0, fin_val, fin_dct, len_tup, len_lst, List.getElem?_cons_succ, List.getElem?_cons_zero, List.set_cons_succ, List.set_cons_zero, List.map_cons, List.map_nil, List.replicate, List.cons_append, List.nil_append, if_true, if_false, ite_true, ite_false, Bool.not_true, Bool.not_false, Bool.false_eq_true, Option.map_some, fz, hs1, fin_lstO f0, hs2, f2, asgT, asgL]
  refine S_mono (left_loop (k := k + 1) (by omega) hd2 (by omega) hp.1 hpre2 g4 g5 (Nat.le_refl _) (by omega) (by omega)) fun f s3 hf => ?_
  obtain ⟨σ3, rfl, a5, o2, lf, rfl, e1, e2, e3, e4, e5, e6, e7, e8, e9⟩ := hf
  rw [hrl] at e6 e7 e8 e9
  have hwh : WhP (n + rs.length) p q st.length a5 rs.length lf.length st (rs.map rwD) o2 lf.length [some (.loc p), some (.tup (rs.map rwD)), o2, none, some (.loc st.length), some (.loc a5), none, none, none] s3 :=
    ⟨[0], lf, rfl, e1, e2, e3, rfl, by rw [List.length_singleton]; omega, fun x hx => by rw [List.mem_singleton.mp hx]; exact hr.pos, e6, fun x hx => by
      by_cases hx0 : x = 0
      · exact .inl (by rw [hx0]; exact List.mem_cons_self)
      · exact .inr (e7 x (by omega) hx), e9.mono (by omega)⟩
  simp only [ev_var, ev_cint, ev_cstr, ev_cbl, ev_cnon, ev_gl, ev_bty, ev_val, ev_tup, ev_lst, ev_dnew, ev_bin, ev_neg, ev_cmp, ev_cmp2, ev_and, ev_or, ev_one, ev_not, ev_ite, ev_ix, ev_sl, ev_rev, ev_call, ev_callk, ev_bi, ev_me, evA_nil, evA_cons, evT_and, evT_or, evT_one, evT_not, evT_ite, evT_nil, evT_cmp, evT_cmp2, evT_cons, evT_val, evP_nil, evP_val, ex_skip, ex_seq, ex_asg, ex_par, ex_six, ex_aug, ex_ex, ex_ret, ex_retN, ex_ife, ex_brk, ex_cont, S_bind, S_ok, some_some, asB_bl, asI_int, getS_z, getS_s, der_non, der_bl, der_int, pder_str, der_tup, der_lst, pder_dct, der_ty, cmp_lt_i, cmp_le_i, cmp_gt_i, cmp_ge_i, cmp_eq_i, cmp_ne_i, cmp_lt_s, cmp_le_s, cmp_eq_s, cmp_ne_s, cmp_eq_l0, cmp_ne_l0, fin_val, fin_dct, len_tup, len_lst, List.getElem?_cons_succ, List.getElem?_cons_zero, List.set_cons_succ, List.set_cons_zero, List.map_cons, List.map_nil, List.replicate, List.cons_append, List.nil_append, if_true, if_false, ite_true, ite_false, Bool.not_true, Bool.not_false, Bool.false_eq_true, Option.map_some]
  refine S_mono (pop_loop (k := k + 1) (b := st.length) hp.1 (by omega) (Nat.le_refl _) e4 e5 (Nat.le_refl _) e4 (by omega) (by omega) hwh) fun f s4 hf => ?_
  obtain ⟨σ4, rfl, sp, lf2, rfl, w1, w2, w3, w4, w5, w6, w7, w8, w9⟩ := hf
  have hlf2 : lf2 = [] := List.eq_nil_of_length_eq_zero w4
  subst hlf2
  generalize hs5 : s4 ++ [O.lst []] = s5
  have l5 : s5.length = s4.length + 1 := by rw [← hs5]; simp
  have := w1.1
  have h4l : st.length < s4.length := (List.getElem?_eq_some_iff.mp w2).1
  simp only [ev_var, ev_cint, ev_cstr, ev_cbl, ev_cnon, ev_gl, ev_bty, ev_val, ev_tup, ev_lst, ev_dnew, ev_bin, ev_neg, ev_cmp, ev_cmp2, ev_and, ev_or, ev_one, ev_not, ev_ite, ev_ix, ev_sl, ev_rev, ev_call, ev_callk, ev_bi, ev_me, evA_nil, evA_cons, evT_and, evT_or, evT_one, evT_not, evT_ite, evT_nil, evT_cmp, evT_cmp2, evT_cons, evT_val, evP_nil, evP_val, ex_skip, ex_seq, ex_asg, ex_par, ex_six, ex_aug, ex_ex, ex_ret, ex_retN, ex_ife, ex_brk, ex_cont, S_bind, S_ok, some_some, asB_bl, asI_int, getS_z, getS_s, der_non, der_bl, der_int, pder_str, der_tup, der_lst, pder_dct, der_ty, cmp_lt_i, cmp_le_i, cmp_gt_i, cmp_ge_i, cmp_eq_i, cmp_ne_i, cmp_lt_s, cmp_le_s, cmp_eq_s, cmp_ne_s, cmp_eq_l0, cmp_ne_l0, fin_val, fin_dct, len_tup, len_lst, List.getElem?_cons_succ, List.getElem?_cons_zero, List.set_cons_succ, List.set_cons_zero, List.map_cons, List.map_nil, List.replicate, List.cons_append, List.nil_append, if_true, if_false, ite_true, ite_false, Bool.not_true, Bool.not_false, Bool.false_eq_true, Option.map_some, fin_lstO f0, hs5, asgT]
  refine S_mono (copy_loop (k := k) (b := st.length) (o2 := o2) (a3 := s4.length) (a4 := st.length) (a5 := a5) (N := 0) (p := p) (q := q) (n := n + rs.length + sp.length) (s0 := st) hl hr.ok w6 (fun x hx => (w8 x hx).resolve_right fun z => by cases z) (by omega) hp.1 (by omega) (by omega) (Nat.le_refl _) (by omega) (by omega) (by omega) (by rw [← hs5]; exact w9.app _) (by rw [← hs5]; exact w1.app _) (by rw [← hs5, List.getElem?_append_left h4l]; exact w2) (by rw [← hs5]; simp)) fun f s6 hf => ?_
  obtain ⟨σ6, rfl, o2', o6, o7, o8, acc, rfl, c1, c2, c3, c4, c5, c6⟩ := hf
  have tp : ∀ xs : List D, biD .tuple [.lst xs] = .val (.tup xs) := fun _ => rfl
  simp only [ev_var, ev_cint, ev_cstr, ev_cbl, ev_cnon, ev_gl, ev_bty, ev_val, ev_tup, ev_lst, ev_dnew, ev_bin, ev_neg, ev_cmp, ev_cmp2, ev_and, ev_or, ev_one, ev_not, ev_ite, ev_ix, ev_sl, ev_rev, ev_call, ev_callk, ev_bi, ev_me, evA_nil, evA_cons, evT_and, evT_or, evT_one, evT_not, evT_ite, evT_nil, evT_cmp, evT_cmp2, evT_cons, evT_val, evP_nil, evP_val, ex_skip, ex_seq, ex_asg, ex_par, ex_six, ex_aug, ex_ex, ex_ret, ex_retN, ex_ife, ex_brk, ex_cont, S_bind, S_ok, some_some, asB_bl, asI_int, getS_z, getS_s, der_non, der_bl, der_int, pder_str, der_tup, der_lst, pder_dct, der_ty, cmp_lt_i, cmp_le_i, cmp_gt_i, cmp_ge_i, cmp_eq_i, cmp_ne_i, cmp_lt_s, cmp_le_s, cmp_eq_s, cmp_ne_s, cmp_eq_l0, cmp_ne_l0, fin_val, fin_dct, len_tup, len_lst, List.getElem?_cons_succ, List.getElem?_cons_zero, List.set_cons_succ, List.set_cons_zero, List.map_cons, List.map_nil, List.replicate, List.cons_append, List.nil_append, if_true, if_false, ite_true, ite_false, Bool.not_true, Bool.not_false, Bool.false_eq_true, Option.map_some, der_locL c3, tp]
  have hcp : Cps acc := ⟨by omega, c5⟩
  refine endF_S (gd_clo _ _ (by
    unfold gd
    refine gdL_of fun d hd => ?_
    obtain ⟨r, hr, rfl⟩ := List.mem_map.mp hd
    exact row_gd (c5 r hr).1)) ?_
  exact hQ acc _ hcp ((Dk.mono (m := n + 600) c6 (by omega)).take hp.1) (Sm.of_take c1.1 c1.2)
end K01
end
section
open PySem L2 Mi
namespace K01
/-- plain, small; without dicts (c), or without lists -/
structure Ez (k w : Nat) (c : Bool) (e : D) : Prop where
  g : gd e = true
  s : shD e = true
  n : (if c then noDc e else noLs e) = true
  dp : dpD e ≤ k
  w : wt e ≤ w
theorem Ez.mono {k w k' w' : Nat} {c : Bool} {e : D} (h : Ez k w c e) (h1 : k ≤ k') (h2 : w ≤ w') : Ez k' w' c e := ⟨h.g, h.s, h.n, Nat.le_trans h.dp h1, Nat.le_trans h.w h2⟩
theorem Ez.rp {k w : Nat} {c : Bool} {e : D} (h : Ez k w c e) (h1 : k ≤ 60) (h2 : w ≤ 16777216) : Rp e := ⟨h.g, h.s, by
  have := h.n
  cases c
  · rw [if_neg Bool.false_ne_true] at this; rw [this, Bool.or_true]
  · rw [if_pos rfl] at this; rw [this, Bool.true_or], Nat.le_trans h.dp h1, Nat.le_trans h.w h2⟩
theorem ezL {k w : Nat} {c : Bool} : ∀ {xs : List D}, (∀ e ∈ xs, Ez k w c e) → gdL xs = true ∧ shL xs = true ∧ (if c then noDcL xs else noLsL xs) = true ∧ dpL xs ≤ k ∧ wtL xs ≤ xs.length * (w + 2)
  | [], _ => ⟨by unfold gdL; rfl, by unfold shL; rfl, by cases c <;> (unfold noDcL noLsL; rfl), by unfold dpL; exact Nat.zero_le _, by unfold wtL; exact Nat.zero_le _⟩
  | x :: r, h => by
    have hx := h x List.mem_cons_self
    obtain ⟨h1, h2, h3, h4, h5⟩ := ezL (xs := r) fun e he => h e (List.mem_cons_of_mem _ he)
    refine ⟨by unfold gdL; rw [hx.g, h1]; rfl, by unfold shL; rw [hx.s, h2]; rfl, ?_, ?_, ?_⟩
    · have hn := hx.n
      unfold noDcL noLsL
      cases c
      · rw [if_neg Bool.false_ne_true] at hn h3 ⊢; rw [hn, h3]; rfl
      · rw [if_pos rfl] at hn h3 ⊢; rw [hn, h3]; rfl
    · unfold dpL
      exact Nat.max_le.mpr ⟨hx.dp, h4⟩
    · unfold wtL
      have := hx.w
      rw [List.length_cons, Nat.succ_mul]
      omega
theorem ez_tup {k w : Nat} {c : Bool} {xs : List D} (h : ∀ e ∈ xs, Ez k w c e) : Ez (k + 1) (xs.length * (w + 2) + 3) c (.tup xs) := by
  obtain ⟨h1, h2, h3, h4, h5⟩ := ezL h
  exact ⟨by unfold gd; exact h1, by unfold shD; exact h2, by unfold noDc noLs; exact h3, by unfold dpD; omega, by unfold wt; omega⟩
theorem ez_lst {k w : Nat} {xs : List D} (h : ∀ e ∈ xs, Ez k w true e) : Ez (k + 1) (xs.length * (w + 2) + 3) true (.lst xs) := by
  obtain ⟨h1, h2, h3, h4, h5⟩ := ezL h
  exact ⟨by unfold gd; exact h1, by unfold shD; exact h2, by unfold noDc; exact h3, by unfold dpD; omega, by unfold wt; omega⟩
theorem elz {k w : Nat} {e : D} (c : Bool) (h : El k w e) (h2 : noLs e = true) : Ez k w c e := ⟨h.g, h.s, by cases c <;> simp [h.n, h2], h.dp, h.w⟩
theorem ez_int {i : Int} (c : Bool) (h : i.natAbs < 2 ^ 200) : Ez 0 2000 c (.int i) := elz c (el_int h) (by unfold noLs; rfl)
theorem ez_non (c : Bool) : Ez 0 2000 c .non := elz c el_non (by unfold noLs; rfl)
theorem ez_bl (c d : Bool) : Ez 0 2000 c (.bl d) := elz c (el_bl d) (by unfold noLs; rfl)
theorem ez_str {x : Str} (c : Bool) (h1 : gd (.str x) = true) (h2 : shD (.str x) = true) (h3 : x.length ≤ 100) : Ez 0 2000 c (.str x) := elz c (el_str h1 h2 h3) (by unfold noLs; rfl)
theorem ez_nm {x : Str} (c : Bool) (h : x ∈ NM) : Ez 0 2000 c (.str x) := by
  obtain ⟨h1, h2, h3⟩ := nm_gd x h
  exact ez_str c h1 h2 (by omega)
theorem ez_app {x y : Str} (c : Bool) (h : x ∈ NM) (hy : shD (.str y) = true) (hl : y.length ≤ 50) : Ez 0 2000 c (.str (x ++ y)) := by
  obtain ⟨h1, h2, h3⟩ := nm_gd x h
  have hl2 : (x ++ y).length = x.length + y.length := strLen_append x y
  refine ez_str c ?_ ?_ (by omega)
  · unfold gd
    exact Nat.ble_eq.mpr (by have : big = 16777216 := rfl; omega)
  · unfold shD at h2 hy ⊢
    rw [str_app, List.all_append, h2, hy]
    rfl
theorem ez_nD (c : Bool) {i : Nat} (h : i < 1000000) : Ez 0 2000 c (nD i) := ez_int c (by show i < 2 ^ 200; exact Nat.lt_trans h (by decide))
/-- the fields of a row -/
theorem ez_fs (c : Bool) {fs : List Nat} (h : ∀ x ∈ fs, x < 1000000) (hl : fs.length ≤ 3) : Ez 1 6009 c (.tup (fs.map nD)) := by
  refine (ez_tup (k := 0) (w := 2000) fun e he => ?_).mono (Nat.le_refl _) (by rw [List.length_map]; omega)
  obtain ⟨i, hi, rfl⟩ := List.mem_map.mp he
  exact ez_nD c (h i hi)
theorem ez1 {k w : Nat} {c : Bool} {p : D} (h : Ez k w c p) : Ez (k + 1) (w + 5) c (.tup [p]) := (ez_tup (xs := [p]) fun e he => by rw [List.mem_singleton.mp he]; exact h).mono (Nat.le_refl _) (by simp only [List.length_cons, List.length_nil]; omega)
theorem ez2 {k w : Nat} {c : Bool} {p q : D} (h : Ez k w c p) (h2 : Ez k w c q) : Ez (k + 1) (2 * w + 7) c (.tup [p, q]) := (ez_tup (xs := [p, q]) fun e he => by
  simp only [List.mem_cons, List.not_mem_nil, or_false] at he
  rcases he with rfl | rfl
  · exact h
  · exact h2).mono (Nat.le_refl _) (by simp only [List.length_cons, List.length_nil]; omega)
theorem ez3 {k w : Nat} {c : Bool} {p q r : D} (h : Ez k w c p) (h2 : Ez k w c q) (h3 : Ez k w c r) : Ez (k + 1) (3 * w + 9) c (.tup [p, q, r]) := (ez_tup (xs := [p, q, r]) fun e he => by
  simp only [List.mem_cons, List.not_mem_nil, or_false] at he
  rcases he with rfl | rfl | rfl
  · exact h
  · exact h2
  · exact h3).mono (Nat.le_refl _) (by simp only [List.length_cons, List.length_nil]; omega)
theorem ez_row (c : Bool) {r : Str × List Nat} (h : r.1 ∈ NM) (hf : ∀ x ∈ r.2, x < 1000000) (hl : r.2.length ≤ 3) : Ez 2 13000 c (rwD r) :=
  (ez2 ((ez_nm c h).mono (Nat.zero_le _) (by decide)) (ez_fs c hf hl)).mono (Nat.le_refl _) (by decide)
theorem ez_t0 (c : Bool) : Ez 1 10 c (.tup []) := (ez_tup (k := 0) (w := 0) (xs := []) fun e he => by cases he).mono (Nat.le_refl _) (by decide)
theorem ez_d0 : Ez 1 10 false (.dct [] []) := ⟨by unfold gd gdL; rfl, by unfold shD shL; rfl, by rw [if_neg Bool.false_ne_true]; unfold noLs noLsL; rfl, by unfold dpD dpL; decide, by unfold wt wtL; decide⟩
theorem ez_d1 {x : Str} (h : x ∈ NM) : Ez 1 5000 false (.dct [.str x] [.int 0]) := by
  obtain ⟨h1, h2, h3, h4, h5⟩ := ezL (k := 0) (w := 2000) (c := false) (xs := [.str x]) fun e he => by rw [List.mem_singleton.mp he]; exact ez_nm false h
  obtain ⟨g1, g2, g3, g4, g5⟩ := ezL (k := 0) (w := 2000) (c := false) (xs := [.int 0]) fun e he => by rw [List.mem_singleton.mp he]; exact ez_int false (by decide)
  rw [if_neg Bool.false_ne_true] at h3 g3
  refine ⟨by unfold gd; rw [h1, g1]; rfl, by unfold shD; rw [h2, g2]; rfl, by rw [if_neg Bool.false_ne_true]; unfold noLs; rw [h3, g3]; rfl, by unfold dpD; omega, ?_⟩
  unfold wt
  simp only [List.length_cons, List.length_nil] at h5 g5
  omega
/-! ### bent rows -/
def bl1 (nm : Str) (fs : List D) (a : Nat) (odd : D) : List D := [.tup [.str nm, .tup (fs.take a ++ [odd] ++ fs.drop (a + 1))], .tup [.str nm, .tup (fs ++ [.int 0])], .tup [.str nm, .tup (fs.drop 1)]]
def bl2 (nm tg : Str) (fs : List D) : List D := [.tup [.str nm, .lst fs], .tup [.str tg, .tup fs], .tup [.str (nm ++ "x"), .tup fs], .tup [.str "void", .tup fs]]
def bl3 (nm : Str) (fs : List D) : List D := [.tup [.str "void", .tup []], .lst [.str nm, .tup fs], .tup [.str nm], .str nm, .tup [.str nm, .tup fs, .tup []], .tup [.tup fs, .str nm], .tup [.non, .tup fs]]
def bl4 (nm : Str) (fs : List D) (z : D) : List D := [.tup [.tup [.str nm], .tup fs], .tup [.lst [.str nm], .tup fs], .tup [.dct [] [], .tup []], .tup [z, .tup fs]]
def ods (n : Nat) : List D := [.int (n : Int), .int (-1), .bl true, .non, .str "0", .tup [.int 0], .int (10 ^ 39), .int ((n : Int) - 1), .int 0]
theorem ods_ez (c : Bool) {n : Nat} (h : n ≤ 1000) : ∀ e ∈ ods n, Ez 1 2005 c e := by
  intro e he
  unfold ods at he
  simp only [List.mem_cons, List.not_mem_nil, or_false] at he
  have i : ∀ {j : Int}, j.natAbs < 2 ^ 200 → Ez 1 2005 c (.int j) := fun hj => (ez_int c hj).mono (by decide) (by decide)
  rcases he with rfl | rfl | rfl | rfl | rfl | rfl | rfl | rfl | rfl
  · exact i (by omega)
  · exact i (by decide)
  · exact (ez_bl c _).mono (by decide) (by decide)
  · exact (ez_non c).mono (by decide) (by decide)
  · exact (ez_str c (by decide +kernel) (by decide +kernel) (by decide)).mono (by decide) (by decide)
  · exact (ez1 (ez_int c (by decide))).mono (by decide) (by decide)
  · exact i (by decide)
  · exact i (by omega)
  · exact i (by decide)
theorem bl_ez {nm tg : Str} {fs : List Nat} {a n : Nat} {odd : D} (hn : n ≤ 1000) (hnm : nm ∈ NM) (htg : tg ∈ NM) (hf : ∀ x ∈ fs, x < 1000000) (hl : fs.length ≤ 3) (ho : odd ∈ ods n) :
    ∀ e ∈ bl1 nm (fs.map nD) a odd ++ bl2 nm tg (fs.map nD) ++ bl3 nm (fs.map nD) ++ bl4 nm (fs.map nD) (.dct [.str nm] [.int 0]), ∃ c, Ez 3 40000 c e := by
  have N : ∀ c, Ez 2 11000 c (.str nm) := fun c => (ez_nm c hnm).mono (by decide) (by decide)
  have F : ∀ c, Ez 2 11000 c (.tup (fs.map nD)) := fun c => (ez_fs c hf hl).mono (by decide) (by decide)
  have T0 : ∀ c, Ez 2 11000 c (.tup []) := fun c => (ez_t0 c).mono (by decide) (by decide)
  have m2 : ∀ {c : Bool} {e : D}, Ez 3 (2 * 11000 + 7) c e → ∃ c, Ez 3 40000 c e := fun {c} {e} h => ⟨c, h.mono (by decide) (by decide)⟩
  have X : ∀ {xs : List D}, (∀ e ∈ xs, Ez 1 2005 true e) → xs.length ≤ 5 → Ez 2 11000 true (.tup xs) := fun {xs} h h5 => (ez_tup h).mono (by decide) (by
    have : xs.length * (2005 + 2) ≤ 5 * (2005 + 2) := Nat.mul_le_mul_right _ h5
    omega)
  have D1 : ∀ e ∈ fs.map nD, Ez 1 2005 true e := fun e he => by
    obtain ⟨i, hi, rfl⟩ := List.mem_map.mp he
    exact (ez_nD true (hf i hi)).mono (by decide) (by decide)
  have hml : (fs.map nD).length ≤ 3 := by rw [List.length_map]; exact hl
  intro e he
  simp only [bl1, bl2, bl3, bl4, List.cons_append, List.nil_append, List.mem_cons, List.not_mem_nil, or_false] at he
  rcases he with rfl | rfl | rfl | rfl | rfl | rfl | rfl | rfl | rfl | rfl | rfl | rfl | rfl | rfl | rfl | rfl | rfl | rfl
  · refine m2 (ez2 (N true) (X (fun e he => ?_) ?_))
    · rcases List.mem_append.mp he with he | he
      · rcases List.mem_append.mp he with he | he
        · exact D1 e (List.mem_of_mem_take he)
        · rw [List.mem_singleton.mp he]; exact ods_ez true hn odd ho
      · exact D1 e (List.mem_of_mem_drop he)
    · rw [List.length_append, List.length_append, List.length_take, List.length_drop, List.length_singleton]; omega
  · refine m2 (ez2 (N true) (X (fun e he => ?_) ?_))
    · rcases List.mem_append.mp he with he | he
      · exact D1 e he
      · rw [List.mem_singleton.mp he]; exact (ez_int true (by decide)).mono (by decide) (by decide)
    · rw [List.length_append, List.length_singleton]; omega
  · exact m2 (ez2 (N true) (X (fun e he => D1 e (List.mem_of_mem_drop he)) (by rw [List.length_drop]; omega)))
  · refine m2 (ez2 (N true) ((ez_lst D1).mono (by decide) ?_))
    have : (fs.map nD).length * (2005 + 2) ≤ 3 * (2005 + 2) := Nat.mul_le_mul_right _ hml
    omega
  · exact m2 (ez2 ((ez_nm true htg).mono (by decide) (by decide)) (F true))
  · exact m2 (ez2 ((ez_app true hnm (by decide +kernel) (by decide)).mono (by decide) (by decide)) (F true))
  · exact m2 (ez2 ((ez_nm true nm_void).mono (by decide) (by decide)) (F true))
  · exact m2 (ez2 ((ez_nm true nm_void).mono (by decide) (by decide)) (T0 true))
  · refine m2 ((ez_lst (k := 2) (w := 11000) (xs := [.str nm, .tup (fs.map nD)]) fun e he => ?_).mono (by decide) (by simp only [List.length_cons, List.length_nil]; omega))
    simp only [List.mem_cons, List.not_mem_nil, or_false] at he
    rcases he with rfl | rfl
    · exact N true
    · exact F true
  · exact ⟨true, (ez1 (N true)).mono (by decide) (by decide)⟩
  · exact ⟨true, (N true).mono (by decide) (by decide)⟩
  · exact ⟨true, (ez3 (N true) (F true) (T0 true)).mono (by decide) (by decide)⟩
  · exact m2 (ez2 (F true) (N true))
  · exact m2 (ez2 ((ez_non true).mono (by decide) (by decide)) (F true))
  · exact m2 (ez2 ((ez1 (ez_nm true hnm)).mono (by decide) (by decide)) (F true))
  · refine m2 (ez2 ((ez_lst (k := 0) (w := 2000) (xs := [.str nm]) fun e he => ?_).mono (by decide) (by simp only [List.length_cons, List.length_nil]; omega)) (F true))
    rw [List.mem_singleton.mp he]
    exact ez_nm true hnm
  · exact m2 (ez2 (ez_d0.mono (by decide) (by decide)) (T0 false))
  · exact m2 (ez2 ((ez_d1 hnm).mono (by decide) (by decide)) (F false))
end K01
end
section
open PySem L2 Mi
namespace K01
theorem dsp_ok (s : Store) (nm : Str) : dspD s.length (s ++ [O.dct [] []]) [.str nm, .int 0] = some (s ++ [O.dct [.str nm] [.int 0]]) := by
  show (if (isE0 (s ++ [O.dct [] []]) s.length && Nat.ble 1 15) = true then wr s.length (s ++ [O.dct [] []]) s.length (.dct [.str nm] [.int 0]) else none) = _
  rw [if_pos (by rw [isE0_of (by simp)]; rfl), wr_new (o := .dct [] []) (by simp) (fun z => by cases z) (Nat.le_refl _)]
  simp
theorem bent_row_run {k n p q b : Nat} {l : List (Str × Nat)} {rows : List D} {nm : Str} {fs : List Nat} {st : Store} {Q : D → Store → Prop} (h : Dk n st p q) (hn : n ≤ 9000) (hl : Tags l) (hl1 : 1 ≤ l.length) (hrl : rows.length ≤ 1000) (hnm : nm ∈ NM) (hf : ∀ x ∈ fs, x < 1000000) (hfl : fs.length ≤ 3)
    (hQ : ∀ (d : D) (s : Store), (∃ c, Ez 3 40000 c d) → Dk (n + 4) s p q → Sm p q st s → Q d s) :
    (Mi.run tb gs 10000 (k+3) 14 [.loc p, .tup (l.map tgD), .tup rows, rwD (nm, fs)] b st).S Q := by
  have hp := h.lt
  refine S_run (fn := f__law_bent_row) rfl rfl ?_
  simp only [f__law_bent_row]
  have er : rwD (nm, fs) = .tup [.str nm, .tup (fs.map nD)] := rfl
  rw [er]
  have hFl : (fs.map nD).length ≤ 3 := by rw [List.length_map]; exact hfl
  have hFg : gdL (fs.map nD) = true := nD_gd fs
  obtain ⟨F, hF⟩ : ∃ F, fs.map nD = F := ⟨_, rfl⟩
  rw [hF] at hFl hFg ⊢
  have e1 : binD .Add (.int (F.length : Int)) (.int 1) = .val (.int ((F.length + 1 : Nat) : Int)) := rfl
  simp only [ev_var, ev_cint, ev_cstr, ev_cbl, ev_cnon, ev_gl, ev_bty, ev_val, ev_tup, ev_lst, ev_dnew, ev_bin, ev_neg, ev_cmp, ev_cmp2, ev_and, ev_or, ev_one, ev_not, ev_ite, ev_ix, ev_sl, ev_rev, ev_call, ev_callk, ev_bi, ev_me, evA_nil, evA_cons, evT_and, evT_or, evT_one, evT_not, evT_ite, evT_nil, evT_cmp, evT_cmp2, evT_cons, evT_val, evP_nil, evP_val, ex_skip, ex_seq, ex_asg, ex_par, ex_six, ex_aug, ex_ex, ex_ret, ex_retN, ex_ife, ex_brk, ex_cont, S_bind, S_ok, some_some, asB_bl, asI_int, getS_z, getS_s, der_non, der_bl, der_int, pder_str, der_tup, der_lst, pder_dct, der_ty, cmp_lt_i, cmp_le_i, cmp_gt_i, cmp_ge_i, cmp_eq_i, cmp_ne_i, cmp_lt_s, cmp_le_s, cmp_eq_s, cmp_ne_s, cmp_eq_l0, cmp_ne_l0, fin_val, fin_dct, len_tup, len_lst, List.getElem?_cons_succ, List.getElem?_cons_zero, List.set_cons_succ, List.set_cons_zero, List.map_cons, List.map_nil, List.replicate, List.cons_append, List.nil_append, if_true, if_false, ite_true, ite_false, Bool.not_true, Bool.not_false, Bool.false_eq_true, Option.map_some, asgT, asgL, e1]
  refine draw_run (lim := F.length + 1) (k := k + 1) h (by omega) (by omega) (by omega) fun a s1 ha hd1 hs1 => ?_
  have pw : binD .Pow (.int 10) (.int 39) = .val (.int (10 ^ 39)) := by rfl
  have f1 : ∀ u : D, fits [u] = true := fun _ => rfl
  have f2 : ∀ u v : D, fits [u, v] = true := fun _ _ => rfl
  have f3 : ∀ u v w : D, fits [u, v, w] = true := fun _ _ _ => rfl
  have f0 : fits ([] : List D) = true := rfl
  have fo : ∀ s : Store, (PR.newL [D.int (rows.length : Int), .int (-1), .bl true, .non, .str "0", .tup [.int 0], .int (10 ^ 39), .int ((rows.length : Int) - 1), .int 0]).fin false s = .ok (.lst (ods rows.length)) s := fun s => fin_lst rfl
  simp only [ev_var, ev_cint, ev_cstr, ev_cbl, ev_cnon, ev_gl, ev_bty, ev_val, ev_tup, ev_lst, ev_dnew, ev_bin, ev_neg, ev_cmp, ev_cmp2, ev_and, ev_or, ev_one, ev_not, ev_ite, ev_ix, ev_sl, ev_rev, ev_call, ev_callk, ev_bi, ev_me, evA_nil, evA_cons, evT_and, evT_or, evT_one, evT_not, evT_ite, evT_nil, evT_cmp, evT_cmp2, evT_cons, evT_val, evP_nil, evP_val, ex_skip, ex_seq, ex_asg, ex_par, ex_six, ex_aug, ex_ex, ex_ret, ex_retN, ex_ife, ex_brk, ex_cont, S_bind, S_ok, some_some, asB_bl, asI_int, getS_z, getS_s, der_non, der_bl, der_int, pder_str, der_tup, der_lst, pder_dct, der_ty, cmp_lt_i, cmp_le_i, cmp_gt_i, cmp_ge_i, cmp_eq_i, cmp_ne_i, cmp_lt_s, cmp_le_s, cmp_eq_s, cmp_ne_s, cmp_eq_l0, cmp_ne_l0, fin_val, fin_dct, len_tup, len_lst, List.getElem?_cons_succ, List.getElem?_cons_zero, List.set_cons_succ, List.set_cons_zero, List.map_cons, List.map_nil, List.replicate, List.cons_append, List.nil_append, if_true, if_false, ite_true, ite_false, Bool.not_true, Bool.not_false, Bool.false_eq_true, Option.map_some, setAll, f1, pw, bin_sub, fo]
  refine pick_run (k := k + 1) hd1 (by omega) (.inl rfl) (by show 0 < 9; decide) (by show 9 ≤ 1000000; decide) (fun x hx => gd_clo _ _ (ods_ez true hrl x hx).g) fun odd s2 ho hd2 hs2 => ?_
  have hog := (ods_ez true hrl odd ho).g
  have bg : big = 16777216 := rfl
  have e1' : binD .Add (.int (a : Int)) (.int 1) = .val (.int ((a + 1 : Nat) : Int)) := rfl
  have sl1 : slD (.tup F) none (some (a : Int)) = .val (.tup (F.take a)) := by
    show PR.val (.tup (cut F none (some (a : Int)))) = _
    rw [cut_to]
  have sl2 : slD (.tup F) (some ((a + 1 : Nat) : Int)) none = .val (.tup (F.drop (a + 1))) := by
    show PR.val (.tup (cut F (some ((a + 1 : Nat) : Int)) none)) = _
    rw [cut_from]
  have sl3 : slD (.tup F) (some 1) none = .val (.tup (F.drop 1)) := by
    show PR.val (.tup (cut F (some ((1 : Nat) : Int)) none)) = _
    rw [cut_from]
  have x1 : binD .Add (.tup (F.take a)) (.tup [odd]) = .val (.tup (F.take a ++ [odd])) := bin_addT (by rw [List.length_take, List.length_singleton]; omega)
  have x2 : binD .Add (.tup (F.take a ++ [odd])) (.tup (F.drop (a + 1))) = .val (.tup (F.take a ++ [odd] ++ F.drop (a + 1))) := bin_addT (by rw [List.length_append, List.length_take, List.length_singleton, List.length_drop]; omega)
  have x3 : binD .Add (.tup F) (.tup [.int 0]) = .val (.tup (F ++ [.int 0])) := bin_addT (by rw [List.length_singleton]; omega)
  have g1 : ∀ s : Store, (PR.newL [D.tup [.str nm, .tup (F.take a ++ [odd] ++ F.drop (a + 1))], .tup [.str nm, .tup (F ++ [.int 0])], .tup [.str nm, .tup (F.drop 1)]]).fin true s = .ok (.loc s.length) (s ++ [O.lst (bl1 nm F a odd)]) := fun s => fin_lstO rfl
  generalize hs3 : s2 ++ [O.lst (bl1 nm F a odd)] = s3
  have d3 : s3[s2.length]? = some (.lst (bl1 nm F a odd)) := by rw [← hs3]; simp
  have l2 := hs2.1
  have l1 := hs1.1
  have l3 : s3.length = st.length + 1 := by rw [← hs3]; simp; omega
  have hd3 : Dk (n + 2) s3 p q := by rw [← hs3]; exact hd2.app _
  have li : biD .list [.tup F] = .newL F := rfl
  have fF : fits F = true := fits_of (by omega)
  simp only [ev_var, ev_cint, ev_cstr, ev_cbl, ev_cnon, ev_gl, ev_bty, ev_val, ev_tup, ev_lst, ev_dnew, ev_bin, ev_neg, ev_cmp, ev_cmp2, ev_and, ev_or, ev_one, ev_not, ev_ite, ev_ix, ev_sl, ev_rev, ev_call, ev_callk, ev_bi, ev_me, evA_nil, evA_cons, evT_and, evT_or, evT_one, evT_not, evT_ite, evT_nil, evT_cmp, evT_cmp2, evT_cons, evT_val, evP_nil, evP_val, ex_skip, ex_seq, ex_asg, ex_par, ex_six, ex_aug, ex_ex, ex_ret, ex_retN, ex_ife, ex_brk, ex_cont, S_bind, S_ok, some_some, asB_bl, asI_int, getS_z, getS_s, der_non, der_bl, der_int, pder_str, der_tup, der_lst, pder_dct, der_ty, cmp_lt_i, cmp_le_i, cmp_gt_i, cmp_ge_i, cmp_eq_i, cmp_ne_i, cmp_lt_s, cmp_le_s, cmp_eq_s, cmp_ne_s, cmp_eq_l0, cmp_ne_l0, fin_val, fin_dct, len_tup, len_lst, List.getElem?_cons_succ, List.getElem?_cons_zero, List.set_cons_succ, List.set_cons_zero, List.map_cons, List.map_nil, List.replicate, List.cons_append, List.nil_append, if_true, if_false, ite_true, ite_false, Bool.not_true, Bool.not_false, Bool.false_eq_true, Option.map_some, asgT, sl1, sl2, sl3, f1, f2, f0, e1', x1, x2, x3, g1, hs3, li, fin_lst fF]
  refine pickt_run (k := k + 1) hd3 (by omega) (by rw [List.length_map]; omega) (by rw [List.length_map]; have := hl.le; omega) (fun x hx => gd_clo _ _ (gdL_mem (Tags.gdT fun p hp => (hl.ok p hp).1) hx)) fun x s4 hx hd4 hs4 => ?_
  obtain ⟨t, ht, rfl⟩ := List.mem_map.mp hx
  have htg := (hl.ok t ht).1
  have it : ixD (tgD t) (.int 0) = .val (.str t.1) := rfl
  have dt : ∀ s, der s (tgD t) = tgD t := fun _ => rfl
  have ax : binD .Add (.str nm) (.str "x") = .val (.str (nm ++ "x")) := bin_addS (by have := (nm_gd nm hnm).2.2; show nm.length + 1 ≤ big; omega)
  have g2 : ∀ s : Store, (PR.newL [D.tup [.str nm, .lst F], .tup [.str t.1, .tup F], .tup [.str (nm ++ "x"), .tup F], .tup [.str "void", .tup F]]).fin false s = .ok (.lst (bl2 nm t.1 F)) s := fun s => fin_lst rfl
  have g3 : ∀ s : Store, (PR.newL [D.tup [.str "void", .tup []], .lst [.str nm, .tup F], .tup [.str nm], .str nm, .tup [.str nm, .tup F, .tup []], .tup [.tup F, .str nm], .tup [.non, .tup F]]).fin false s = .ok (.lst (bl3 nm F)) s := fun s => fin_lst rfl
  have g4 : ∀ (z : D) (s : Store), (PR.newL [D.tup [.tup [.str nm], .tup F], .tup [.lst [.str nm], .tup F], .tup [.dct [] [], .tup []], .tup [z, .tup F]]).fin false s = .ok (.lst (bl4 nm F z)) s := fun z s => fin_lst rfl
  have gL : ∀ (u v : D) (s : Store), (PR.newL [u, v]).fin false s = .ok (.lst [u, v]) s := fun u v s => fin_lst rfl
  have gL1 : ∀ (u : D) (s : Store), (PR.newL [u]).fin false s = .ok (.lst [u]) s := fun u s => fin_lst rfl
  have l4 := hs4.1
  have d4 : s4[s2.length]? = some (.lst (bl1 nm F a odd)) := by rw [hs4.2 _ (by omega) (by omega)]; exact d3
  have y1 : binD .Add (.lst (bl1 nm F a odd)) (.lst (bl2 nm t.1 F)) = .newL (bl1 nm F a odd ++ bl2 nm t.1 F) := rfl
  have n1 : fits (bl1 nm F a odd ++ bl2 nm t.1 F) = true := rfl
  generalize hs5 : s4 ++ [O.lst (bl1 nm F a odd ++ bl2 nm t.1 F)] = s5
  have d5 : s5[s4.length]? = some (.lst (bl1 nm F a odd ++ bl2 nm t.1 F)) := by rw [← hs5]; simp
  have l5 : s5.length = s4.length + 1 := by rw [← hs5]; simp
  have y2 : binD .Add (.lst (bl1 nm F a odd ++ bl2 nm t.1 F)) (.lst (bl3 nm F)) = .newL (bl1 nm F a odd ++ bl2 nm t.1 F ++ bl3 nm F) := rfl
  have n2 : fits (bl1 nm F a odd ++ bl2 nm t.1 F ++ bl3 nm F) = true := rfl
  generalize hs6 : s5 ++ [O.lst (bl1 nm F a odd ++ bl2 nm t.1 F ++ bl3 nm F)] = s6
  have d6 : s6[s5.length]? = some (.lst (bl1 nm F a odd ++ bl2 nm t.1 F ++ bl3 nm F)) := by rw [← hs6]; simp
  have l6 : s6.length = s5.length + 1 := by rw [← hs6]; simp
  have y3 : ∀ z : D, binD .Add (.lst (bl1 nm F a odd ++ bl2 nm t.1 F ++ bl3 nm F)) (.lst (bl4 nm F z)) = .newL (bl1 nm F a odd ++ bl2 nm t.1 F ++ bl3 nm F ++ bl4 nm F z) := fun _ => rfl
  have n3 : ∀ (z : D), fits (bl1 nm F a odd ++ bl2 nm t.1 F ++ bl3 nm F ++ bl4 nm F z) = true := fun _ => rfl
  have hd6 : Dk (n + 3) (s6 ++ [O.dct [.str nm] [.int 0]]) p q := by rw [← hs6, ← hs5]; exact ((hd4.app _).app _).app _
  generalize hs7 : s6 ++ [O.dct [.str nm] [.int 0]] = s7 at hd6
  have d7 : s7[s5.length]? = some (.lst (bl1 nm F a odd ++ bl2 nm t.1 F ++ bl3 nm F)) := by rw [← hs7, List.getElem?_append_left (by omega)]; exact d6
  have dz7 : s7[s6.length]? = some (.dct [.str nm] [.int 0]) := by rw [← hs7]; simp
  have l7 : s7.length = s6.length + 1 := by rw [← hs7]; simp
  have dw : dspD s6.length (s6 ++ [O.dct [] []]) [.str nm, .int 0] = some s7 := by rw [dsp_ok, hs7]
  simp only [ev_var, ev_cint, ev_cstr, ev_cbl, ev_cnon, ev_gl, ev_bty, ev_val, ev_tup, ev_lst, ev_dnew, ev_bin, ev_neg, ev_cmp, ev_cmp2, ev_and, ev_or, ev_one, ev_not, ev_ite, ev_ix, ev_sl, ev_rev, ev_call, ev_callk, ev_bi, ev_me, evA_nil, evA_cons, evT_and, evT_or, evT_one, evT_not, evT_ite, evT_nil, evT_cmp, evT_cmp2, evT_cons, evT_val, evP_nil, evP_val, ex_skip, ex_seq, ex_asg, ex_par, ex_six, ex_aug, ex_ex, ex_ret, ex_retN, ex_ife, ex_brk, ex_cont, S_bind, S_ok, some_some, asB_bl, asI_int, getS_z, getS_s, der_non, der_bl, der_int, pder_str, der_tup, der_lst, pder_dct, der_ty, cmp_lt_i, cmp_le_i, cmp_gt_i, cmp_ge_i, cmp_eq_i, cmp_ne_i, cmp_lt_s, cmp_le_s, cmp_eq_s, cmp_ne_s, cmp_eq_l0, cmp_ne_l0, fin_val, fin_dct, len_tup, len_lst, List.getElem?_cons_succ, List.getElem?_cons_zero, List.set_cons_succ, List.set_cons_zero, List.map_cons, List.map_nil, List.replicate, List.cons_append, List.nil_append, if_true, if_false, ite_true, ite_false, Bool.not_true, Bool.not_false, Bool.false_eq_true, Option.map_some, asgT, dt, it, ax, f1, f2, f3, f0, g2, der_locL d4, y1, fin_lstO n1, hs5, g3, gL, gL1, der_locL d5, y2, fin_lstO n2, hs6, ev_dsp, dw, g4, der_locL d7, y3, fin_lst (n3 _)]
  have hbl := bl_ez (a := a) hrl hnm htg hf hfl ho
  rw [hF] at hbl
  have hcl : ∀ x ∈ bl1 nm F a odd ++ bl2 nm t.1 F ++ bl3 nm F ++ bl4 nm F (.loc s6.length), x = .tup [.loc s6.length, .tup F] ∨ ∃ c, Ez 3 40000 c x := by
    intro x hx
    rcases List.mem_append.mp hx with hx | hx
    · exact .inr (hbl x (List.mem_append_left _ hx))
    · unfold bl4 at hx
      rw [show [D.tup [.tup [.str nm], .tup F], .tup [.lst [.str nm], .tup F], .tup [.dct [] [], .tup []], .tup [.loc s6.length, .tup F]] = [D.tup [.tup [.str nm], .tup F], .tup [.lst [.str nm], .tup F], .tup [.dct [] [], .tup []]] ++ [.tup [.loc s6.length, .tup F]] from rfl] at hx
      rcases List.mem_append.mp hx with hx | hx
      · refine .inr (hbl x (List.mem_append_right _ ?_))
        unfold bl4
        rw [show [D.tup [.tup [.str nm], .tup F], .tup [.lst [.str nm], .tup F], .tup [.dct [] [], .tup []], .tup [.dct [.str nm] [.int 0], .tup F]] = [D.tup [.tup [.str nm], .tup F], .tup [.lst [.str nm], .tup F], .tup [.dct [] [], .tup []]] ++ [.tup [.dct [.str nm] [.int 0], .tup F]] from rfl]
        exact List.mem_append_left _ hx
      · exact .inl (List.mem_singleton.mp hx)
  have hclF : ∀ c, cloL c F = true := fun c => gdL_clo c F hFg
  refine pick_run (k := k) (xs := bl1 nm F a odd ++ bl2 nm t.1 F ++ bl3 nm F ++ bl4 nm F (.loc s6.length)) hd6 (by omega) (.inl rfl) (by show 0 < 18; decide) (by show 18 ≤ 1000000; decide) (fun x hx => ?_) fun x s8 hx hd8 hs8 => ?_
  · rcases hcl x hx with rfl | ⟨c, hz⟩
    · unfold clo cloL cloL cloL clo
      rw [hclF, decide_eq_true (by omega : s6.length < s7.length)]
      rfl
    · exact gd_clo _ _ hz.g
  · have l8 := hs8.1
    have fin : ∀ d : D, (∃ c, Ez 3 40000 c d) → Q d (s8.take st.length) := by
      intro d hd
      refine hQ d _ hd (hd8.take (by omega)) (Sm.of_take (by omega) fun i hi i1 i2 => ?_)
      rw [hs8.2 i i1 i2, ← hs7, List.getElem?_append_left (by omega), ← hs6, List.getElem?_append_left (by omega), ← hs5, List.getElem?_append_left (by omega), hs4.2 i i1 i2, ← hs3, List.getElem?_append_left (by omega), hs2.2 i i1 i2, hs1.2 i i1 i2]
    try simp only [ev_var, ev_cint, ev_cstr, ev_cbl, ev_cnon, ev_gl, ev_bty, ev_val, ev_tup, ev_lst, ev_dnew, ev_bin, ev_neg, ev_cmp, ev_cmp2, ev_and, ev_or, ev_one, ev_not, ev_ite, ev_ix, ev_sl, ev_rev, ev_call, ev_callk, ev_bi, ev_me, evA_nil, evA_cons, evT_and, evT_or, evT_one, evT_not, evT_ite, evT_nil, evT_cmp, evT_cmp2, evT_cons, evT_val, evP_nil, evP_val, ex_skip, ex_seq, ex_asg, ex_par, ex_six, ex_aug, ex_ex, ex_ret, ex_retN, ex_ife, ex_brk, ex_cont, S_bind, S_ok, some_some, asB_bl, asI_int, getS_z, getS_s, der_non, der_bl, der_int, pder_str, der_tup, der_lst, pder_dct, der_ty, cmp_lt_i, cmp_le_i, cmp_gt_i, cmp_ge_i, cmp_eq_i, cmp_ne_i, cmp_lt_s, cmp_le_s, cmp_eq_s, cmp_ne_s, cmp_eq_l0, cmp_ne_l0, fin_val, fin_dct, len_tup, len_lst, List.getElem?_cons_succ, List.getElem?_cons_zero, List.set_cons_succ, List.set_cons_zero, List.map_cons, List.map_nil, List.replicate, List.cons_append, List.nil_append, if_true, if_false, ite_true, ite_false, Bool.not_true, Bool.not_false, Bool.false_eq_true, Option.map_some]
    rcases hcl x hx with rfl | ⟨c, hz⟩
    · have e8 : s8[s6.length]? = some (.dct [.str nm] [.int 0]) := by rw [hs8.2 _ (by omega) (by omega)]; exact dz7
      have g0 : frz st.length s8 63 (.loc s6.length) = some (.dct [.str nm] [.int 0]) := frz_locD (k := 62) e8 (by omega) rfl (by decide)
      have dF : dpL F = 0 := dpL_leaf fun x hx => by
        rw [← hF] at hx
        obtain ⟨i, _, rfl⟩ := List.mem_map.mp hx
        rfl
      have g5 : frz st.length s8 63 (.tup F) = some (.tup F) := frz_gd 63 _ (by unfold gd; exact hFg) (by unfold dpD; rw [dF]; decide)
      have g6 : frz st.length s8 64 (.tup [.loc s6.length, .tup F]) = some (.tup [.dct [.str nm] [.int 0], .tup F]) := by
        have e : frz st.length s8 64 (.tup [.loc s6.length, .tup F]) = (match mapO (frz st.length s8 63) [.loc s6.length, .tup F] with | some l => some (.tup l) | none => none) := by
          (conv => lhs; unfold frz) <;> rfl
        rw [e]
        unfold mapO
        rw [g0]
        unfold mapO
        rw [g5]
        unfold mapO
        rfl
      refine endF_frz (d' := .tup [.dct [.str nm] [.int 0], .tup F]) ?_ g6 (fin _ (hbl _ (List.mem_append_right _ ?_)))
      · unfold clo cloL clo
        rw [decide_eq_false (by omega : ¬ s6.length < st.length)]
        rfl
      · unfold bl4
        simp only [List.mem_cons, true_or, or_true]
    · exact endF_S (gd_clo _ _ hz.g) (fin x ⟨c, hz⟩)
end K01
end
section
open PySem L2 Mi
namespace K01
theorem rows_ez (c : Bool) {l : List (Str × Nat)} {rs : List (Str × List Nat)} (hl : Tags l) (h : Rows l rs) : ∀ e ∈ rs.map rwD, Ez 2 13000 c e := by
  intro e he
  obtain ⟨r, hr, rfl⟩ := List.mem_map.mp he
  have := (h.ok r hr)
  have h2 := this.nm hl
  exact ez_row c h2.1 (fun x hx => by have := this.2 x hx; have := h.le; omega) h2.2
theorem tup_rp {c : Bool} {xs : List D} (h : ∀ e ∈ xs, Ez 3 40000 c e) (hl : xs.length ≤ 200) : Rp (.tup xs) := (ez_tup h).rp (by decide) (by
  have : xs.length * (40000 + 2) ≤ 200 * (40000 + 2) := Nat.mul_le_mul_right _ hl
  omega)
theorem lst_rp {xs : List D} (h : ∀ e ∈ xs, Ez 3 40000 true e) (hl : xs.length ≤ 200) : Rp (.lst xs) := (ez_lst h).rp (by decide) (by
  have : xs.length * (40000 + 2) ≤ 200 * (40000 + 2) := Nat.mul_le_mul_right _ hl
  omega)
def bt (X : List D) (a : Nat) (d : D) : D := .tup (X.take a ++ [d] ++ X.drop (a + 1))
def all10 (X : List D) (a : Nat) (d : D) : List D := [bt X a d, bt X a d, bt X a d, bt X a d, bt X a d, bt X a d, .tup X.dropLast, .tup (X.drop 1), .lst X, .tup (X ++ [d])]
theorem all10_rp {l : List (Str × Nat)} {rs : List (Str × List Nat)} {a : Nat} {d : D} (hl : Tags l) (h : Rows l rs) (hd : ∃ c, Ez 3 40000 c d) : ∀ e ∈ all10 (rs.map rwD) a d, Rp e := by
  obtain ⟨c, hd⟩ := hd
  have X : ∀ (c : Bool), ∀ e ∈ rs.map rwD, Ez 3 40000 c e := fun c e he => (rows_ez c hl h e he).mono (by decide) (by decide)
  have hle : (rs.map rwD).length ≤ 24 := by rw [List.length_map]; exact h.le
  have B : Rp (bt (rs.map rwD) a d) := by
    refine tup_rp (c := c) (fun e he => ?_) (by rw [List.length_append, List.length_append, List.length_take, List.length_drop, List.length_singleton]; omega)
    rcases List.mem_append.mp he with he | he
    · rcases List.mem_append.mp he with he | he
      · exact X c e (List.mem_of_mem_take he)
      · rw [List.mem_singleton.mp he]; exact hd
    · exact X c e (List.mem_of_mem_drop he)
  intro e he
  unfold all10 at he
  simp only [List.mem_cons, List.not_mem_nil, or_false] at he
  rcases he with rfl | rfl | rfl | rfl | rfl | rfl | rfl | rfl | rfl | rfl
  · exact B
  · exact B
  · exact B
  · exact B
  · exact B
  · exact B
  · exact tup_rp (c := true) (fun e he => X true e ((List.dropLast_sublist _).subset he)) (by rw [List.length_dropLast]; omega)
  · exact tup_rp (c := true) (fun e he => X true e (List.mem_of_mem_drop he)) (by rw [List.length_drop]; omega)
  · exact lst_rp (X true) (by omega)
  · refine tup_rp (c := c) (fun e he => ?_) (by rw [List.length_append, List.length_singleton]; omega)
    rcases List.mem_append.mp he with he | he
    · exact X c e he
    · rw [List.mem_singleton.mp he]; exact hd
theorem bent_run {k n p q b : Nat} {l : List (Str × Nat)} {rs : List (Str × List Nat)} {st : Store} {Q : D → Store → Prop} (h : Dk n st p q) (hn : n ≤ 8000) (hl : Tags l) (hl1 : 1 ≤ l.length) (hr : Rows l rs) (hQ : ∀ (d : D) (s : Store), Rp d → Dk (n + 6) s p q → Sm p q st s → Q d s) :
    (Mi.run tb gs 10000 (k+4) 15 [.loc p, .tup (l.map tgD), .tup (rs.map rwD)] b st).S Q := by
  have hp := h.lt
  refine S_run (fn := f__law_bent) rfl rfl ?_
  simp only [f__law_bent]
  obtain ⟨X, hX⟩ : ∃ X, rs.map rwD = X := ⟨_, rfl⟩
  have hXl : X.length = rs.length := by rw [← hX, List.length_map]
  have h24 := hr.le
  have hpos := hr.pos
  have bg : big = 16777216 := rfl
  simp only [ev_var, ev_cint, ev_cstr, ev_cbl, ev_cnon, ev_gl, ev_bty, ev_val, ev_tup, ev_lst, ev_dnew, ev_bin, ev_neg, ev_cmp, ev_cmp2, ev_and, ev_or, ev_one, ev_not, ev_ite, ev_ix, ev_sl, ev_rev, ev_call, ev_callk, ev_bi, ev_me, evA_nil, evA_cons, evT_and, evT_or, evT_one, evT_not, evT_ite, evT_nil, evT_cmp, evT_cmp2, evT_cons, evT_val, evP_nil, evP_val, ex_skip, ex_seq, ex_asg, ex_par, ex_six, ex_aug, ex_ex, ex_ret, ex_retN, ex_ife, ex_brk, ex_cont, S_bind, S_ok, some_some, asB_bl, asI_int, getS_z, getS_s, der_non, der_bl, der_int, pder_str, der_tup, der_lst, pder_dct, der_ty, cmp_lt_i, cmp_le_i, cmp_gt_i, cmp_ge_i, cmp_eq_i, cmp_ne_i, cmp_lt_s, cmp_le_s, cmp_eq_s, cmp_ne_s, cmp_eq_l0, cmp_ne_l0, fin_val, fin_dct, len_tup, len_lst, List.getElem?_cons_succ, List.getElem?_cons_zero, List.set_cons_succ, List.set_cons_zero, List.map_cons, List.map_nil, List.replicate, List.cons_append, List.nil_append, if_true, if_false, ite_true, ite_false, Bool.not_true, Bool.not_false, Bool.false_eq_true, Option.map_some, hX]
  refine draw_run (lim := 10) (k := k + 2) h (by omega) (by decide) (by decide) fun w s1 hw hd1 hs1 => ?_
  try simp only [ev_var, ev_cint, ev_cstr, ev_cbl, ev_cnon, ev_gl, ev_bty, ev_val, ev_tup, ev_lst, ev_dnew, ev_bin, ev_neg, ev_cmp, ev_cmp2, ev_and, ev_or, ev_one, ev_not, ev_ite, ev_ix, ev_sl, ev_rev, ev_call, ev_callk, ev_bi, ev_me, evA_nil, evA_cons, evT_and, evT_or, evT_one, evT_not, evT_ite, evT_nil, evT_cmp, evT_cmp2, evT_cons, evT_val, evP_nil, evP_val, ex_skip, ex_seq, ex_asg, ex_par, ex_six, ex_aug, ex_ex, ex_ret, ex_retN, ex_ife, ex_brk, ex_cont, S_bind, S_ok, some_some, asB_bl, asI_int, getS_z, getS_s, der_non, der_bl, der_int, pder_str, der_tup, der_lst, pder_dct, der_ty, cmp_lt_i, cmp_le_i, cmp_gt_i, cmp_ge_i, cmp_eq_i, cmp_ne_i, cmp_lt_s, cmp_le_s, cmp_eq_s, cmp_ne_s, cmp_eq_l0, cmp_ne_l0, fin_val, fin_dct, len_tup, len_lst, List.getElem?_cons_succ, List.getElem?_cons_zero, List.set_cons_succ, List.set_cons_zero, List.map_cons, List.map_nil, List.replicate, List.cons_append, List.nil_append, if_true, if_false, ite_true, ite_false, Bool.not_true, Bool.not_false, Bool.false_eq_true, Option.map_some]
  refine draw_run (lim := X.length) (k := k + 2) hd1 (by omega) (by omega) (by omega) fun a s2 ha hd2 hs2 => ?_
  obtain ⟨r, hra⟩ : ∃ r, rs[a]? = some r := ⟨_, List.getElem?_eq_getElem (by omega)⟩
  obtain ⟨nm, fs⟩ := r
  have hxa : X[a]? = some (rwD (nm, fs)) := by rw [← hX, List.getElem?_map, hra]; rfl
  have hro := hr.ok _ (List.mem_of_getElem? hra)
  obtain ⟨hnm, hf3⟩ := hro.nm hl
  simp only [ev_var, ev_cint, ev_cstr, ev_cbl, ev_cnon, ev_gl, ev_bty, ev_val, ev_tup, ev_lst, ev_dnew, ev_bin, ev_neg, ev_cmp, ev_cmp2, ev_and, ev_or, ev_one, ev_not, ev_ite, ev_ix, ev_sl, ev_rev, ev_call, ev_callk, ev_bi, ev_me, evA_nil, evA_cons, evT_and, evT_or, evT_one, evT_not, evT_ite, evT_nil, evT_cmp, evT_cmp2, evT_cons, evT_val, evP_nil, evP_val, ex_skip, ex_seq, ex_asg, ex_par, ex_six, ex_aug, ex_ex, ex_ret, ex_retN, ex_ife, ex_brk, ex_cont, S_bind, S_ok, some_some, asB_bl, asI_int, getS_z, getS_s, der_non, der_bl, der_int, pder_str, der_tup, der_lst, pder_dct, der_ty, cmp_lt_i, cmp_le_i, cmp_gt_i, cmp_ge_i, cmp_eq_i, cmp_ne_i, cmp_lt_s, cmp_le_s, cmp_eq_s, cmp_ne_s, cmp_eq_l0, cmp_ne_l0, fin_val, fin_dct, len_tup, len_lst, List.getElem?_cons_succ, List.getElem?_cons_zero, List.set_cons_succ, List.set_cons_zero, List.map_cons, List.map_nil, List.replicate, List.cons_append, List.nil_append, if_true, if_false, ite_true, ite_false, Bool.not_true, Bool.not_false, Bool.false_eq_true, Option.map_some, setAll, ixT_nat hxa]
  refine bent_row_run (k := k) hd2 (by omega) hl hl1 (by omega) hnm (fun x hx => by have := hro.2 x hx; omega) hf3 fun d s3 hd hd3 hs3 => ?_
  have hdg : gd d = true := by obtain ⟨c, hz⟩ := hd; exact hz.g
  have f1 : ∀ u : D, fits [u] = true := fun _ => rfl
  have e1 : binD .Add (.int (a : Int)) (.int 1) = .val (.int ((a + 1 : Nat) : Int)) := rfl
  have sl1 : slD (.tup X) none (some (a : Int)) = .val (.tup (X.take a)) := by
    show PR.val (.tup (cut X none (some (a : Int)))) = _
    rw [cut_to]
  have sl2 : slD (.tup X) (some ((a + 1 : Nat) : Int)) none = .val (.tup (X.drop (a + 1))) := by
    show PR.val (.tup (cut X (some ((a + 1 : Nat) : Int)) none)) = _
    rw [cut_from]
  have sl3 : slD (.tup X) (some 1) none = .val (.tup (X.drop 1)) := by
    show PR.val (.tup (cut X (some ((1 : Nat) : Int)) none)) = _
    rw [cut_from]
  have sl4 : slD (.tup X) none (some (-1)) = .val (.tup X.dropLast) := by
    show PR.val (.tup (cut X none (some (-1)))) = _
    rw [cut_init]
  have x1 : binD .Add (.tup (X.take a)) (.tup [d]) = .val (.tup (X.take a ++ [d])) := bin_addT (by rw [List.length_take, List.length_singleton]; omega)
  have x2 : binD .Add (.tup (X.take a ++ [d])) (.tup (X.drop (a + 1))) = .val (bt X a d) := bin_addT (by rw [List.length_append, List.length_take, List.length_singleton, List.length_drop]; omega)
  have x3 : binD .Add (.tup X) (.tup [d]) = .val (.tup (X ++ [d])) := bin_addT (by rw [List.length_singleton]; omega)
  have gL1 : ∀ (u : D) (s : Store), (PR.newL [u]).fin false s = .ok (.lst [u]) s := fun u s => fin_lst rfl
  have mu : binD .Mult (.lst [bt X a d]) (.int 6) = .newL [bt X a d, bt X a d, bt X a d, bt X a d, bt X a d, bt X a d] := rfl
  have g6 : ∀ s : Store, (PR.newL [bt X a d, bt X a d, bt X a d, bt X a d, bt X a d, bt X a d]).fin true s = .ok (.loc s.length) (s ++ [O.lst [bt X a d, bt X a d, bt X a d, bt X a d, bt X a d, bt X a d]]) := fun s => fin_lstO rfl
  have g4 : ∀ s : Store, (PR.newL [D.tup X.dropLast, .tup (X.drop 1), .lst X, .tup (X ++ [d])]).fin false s = .ok (.lst [D.tup X.dropLast, .tup (X.drop 1), .lst X, .tup (X ++ [d])]) s := fun s => fin_lst rfl
  have li : biD .list [.tup X] = .newL X := rfl
  have fX : fits X = true := fits_of (by omega)
  have y1 : binD .Add (.lst [bt X a d, bt X a d, bt X a d, bt X a d, bt X a d, bt X a d]) (.lst [D.tup X.dropLast, .tup (X.drop 1), .lst X, .tup (X ++ [d])]) = .newL (all10 X a d) := rfl
  have gA : ∀ s : Store, (PR.newL (all10 X a d)).fin false s = .ok (.lst (all10 X a d)) s := fun s => fin_lst rfl
  generalize hs4 : s3 ++ [O.lst [bt X a d, bt X a d, bt X a d, bt X a d, bt X a d, bt X a d]] = s4
  have d4 : s4[s3.length]? = some (.lst [bt X a d, bt X a d, bt X a d, bt X a d, bt X a d, bt X a d]) := by rw [← hs4]; simp
  have dB : ∀ s : Store, der s (bt X a d) = bt X a d := fun _ => rfl
  obtain ⟨e, he⟩ : ∃ e, (all10 X a d)[w]? = some e := ⟨_, List.getElem?_eq_getElem (by show w < 10; exact hw)⟩
  have hrp := all10_rp (a := a) hl hr hd
  rw [hX] at hrp
  have hre := hrp e (List.mem_of_getElem? he)
  simp only [ev_var, ev_cint, ev_cstr, ev_cbl, ev_cnon, ev_gl, ev_bty, ev_val, ev_tup, ev_lst, ev_dnew, ev_bin, ev_neg, ev_cmp, ev_cmp2, ev_and, ev_or, ev_one, ev_not, ev_ite, ev_ix, ev_sl, ev_rev, ev_call, ev_callk, ev_bi, ev_me, evA_nil, evA_cons, evT_and, evT_or, evT_one, evT_not, evT_ite, evT_nil, evT_cmp, evT_cmp2, evT_cons, evT_val, evP_nil, evP_val, ex_skip, ex_seq, ex_asg, ex_par, ex_six, ex_aug, ex_ex, ex_ret, ex_retN, ex_ife, ex_brk, ex_cont, S_bind, S_ok, some_some, asB_bl, asI_int, getS_z, getS_s, der_non, der_bl, der_int, pder_str, der_tup, der_lst, pder_dct, der_ty, cmp_lt_i, cmp_le_i, cmp_gt_i, cmp_ge_i, cmp_eq_i, cmp_ne_i, cmp_lt_s, cmp_le_s, cmp_eq_s, cmp_ne_s, cmp_eq_l0, cmp_ne_l0, fin_val, fin_dct, len_tup, len_lst, List.getElem?_cons_succ, List.getElem?_cons_zero, List.set_cons_succ, List.set_cons_zero, List.map_cons, List.map_nil, List.replicate, List.cons_append, List.nil_append, if_true, if_false, ite_true, ite_false, Bool.not_true, Bool.not_false, Bool.false_eq_true, Option.map_some, asgT, f1, e1, sl1, sl2, sl3, sl4, x1, x2, x3, gL1, dB, mu, g6, hs4, li, fin_lst fX, g4, der_locL d4, y1, gA, ix_nat he]
  refine endF_S (gd_clo _ _ hre.g) ?_
  have l1 := hs1.1
  have l2 := hs2.1
  have l3 := hs3.1
  refine hQ e _ hre ?_ (Sm.of_take (by rw [← hs4, List.length_append]; omega) fun i hi i1 i2 => ?_)
  · rw [← hs4]
    exact (hd3.app _).take (by omega)
  · rw [← hs4, List.getElem?_append_left (by omega), hs3.2 i i1 i2, hs2.2 i i1 i2, hs1.2 i i1 i2]
end K01
end
section
open PySem L2 Mi
namespace K01
def lawTurn : S := (.seq (.asg (.nm 5) (.call "_law_tags" 4 (.cons (.var 1) .nil))) (.seq (.asg (.nm 6) (.call "_law_rows" 5 (.cons (.var 1) (.cons (.var 5) .nil)))) (.seq (.asg (.nm 7) (.lst true (.cons (.var 6) (.cons (.call "_law_copies" 13 (.cons (.var 1) (.cons (.var 6) .nil))) (.cons (.tup (.cons (.tup (.cons (.cstr "void") (.cons (.tup .nil) .nil))) .nil)) (.cons (.tup .nil) (.cons .cnon (.cons (.cbl true) (.cons (.cint 0) (.cons (.cstr "") (.cons (.lst false .nil) (.cons (.dnew false) (.cons (.tup (.cons (.tup .nil) .nil)) (.cons (.ix (.var 6) (.cint 0)) (.cons (.tup (.cons (.var 6) .nil)) .nil))))))))))))))) (.seq (.asg (.nm 7) (.bin true .Add (.var 7) (.lc .range1 (.cons (.cint 12) .nil) (.nm 8) .nil (.call "_law_bent" 15 (.cons (.var 1) (.cons (.var 5) (.cons (.var 6) .nil)))) [8]))) (.seq (.ife (.or (.cmp .IsNot (.call "is_sheet" 10 (.cons (.var 5) (.cons (.var 6) .nil))) (.cbl true)) (.one (.cmp .NotEq (.lc .seq (.cons (.var 7) .nil) (.nm 9) (.cons (.not (.val (.call "_law_right" 12 (.cons (.var 5) (.cons (.var 9) .nil))))) .nil) (.var 9) [9]) (.lst false .nil)))) (.seq (.ret (.cbl false)) .skip) .skip) (.seq (.ife (.or (.not (.val (.call "_law_right" 12 (.cons (.tup .nil) (.cons (.var 6) .nil))))) (.or (.not (.val (.call "_law_right" 12 (.cons (.sl false (.var 5) (.val (.cint 1)) .nil) (.cons (.var 6) .nil))))) (.one (.not (.val (.call "_law_right" 12 (.cons (.call "_law_tags" 4 (.cons (.var 1) .nil)) (.cons (.var 6) .nil)))))))) (.seq (.ret (.cbl false)) .skip) .skip) .skip))))))
theorem law_body : f_law.body = (.seq (.asg (.nm 1) (.call "_law_deck" 0 (.cons (.var 0) .nil))) (.seq (.for_ .range1 (.cons (.cint 5) .nil) (.nm 2) lawTurn) (.seq (.asg (.nm 3) (.bi .tuple true (.cons (.lc .range1 (.cons (.cint 200) .nil) (.nm 8) .nil (.tup (.cons (.cstr "a") (.cons (.tup (.cons (.var 8) (.cons (.bin false .Mod (.bin false .Add (.var 8) (.cint 1)) (.cint 200)) .nil))) .nil))) [8]) .nil))) (.seq (.asg (.nm 4) (.lst true (.cons (.tup (.cons (.tup (.cons (.lst false (.cons (.cstr "a") .nil)) (.cons (.tup (.cons (.cint 0) (.cons (.cint 0) .nil))) .nil))) .nil)) (.cons (.tup (.cons (.tup (.cons (.dnew false) (.cons (.tup .nil) .nil))) .nil)) (.cons (.tup (.cons (.tup (.cons (.lst false (.cons (.cstr "void") .nil)) (.cons (.tup .nil) .nil))) .nil)) .nil))))) (.seq (.ife (.cmp .NotEq (.lc .seq (.cons (.var 4) .nil) (.nm 9) (.cons (.not (.val (.call "_law_right" 12 (.cons (.tup (.cons (.tup (.cons (.cstr "a") (.cons (.cint 2) .nil))) .nil)) (.cons (.var 9) .nil))))) .nil) (.var 9) [9]) (.lst false .nil)) (.seq (.ret (.cbl false)) .skip) .skip) (.seq (.ret (.and (.call "_law_right" 12 (.cons (.tup (.cons (.tup (.cons (.cstr "a") (.cons (.cint 2) .nil))) .nil)) (.cons (.var 3) .nil))) (.and (.call "_law_right" 12 (.cons (.tup (.cons (.tup (.cons (.cstr "a") (.cons (.cint 1) .nil))) .nil)) (.cons (.var 3) .nil))) (.one (.call "_law_right" 12 (.cons (.tup .nil) (.cons (.tup (.cons (.tup (.cons (.cstr "void") (.cons (.tup .nil) .nil))) .nil)) .nil))))))) .skip)))))) := rfl
def BtP (n p q : Nat) (s0 : Store) (i : Nat) (acc : List D) (s : Store) : Prop := s.length = s0.length + 1 ∧ s[s0.length]? = some (.lst acc) ∧ acc.length = i ∧ (∀ e ∈ acc, Rp e) ∧ Dk (n + 6 * i) s p q ∧ ∀ j : Nat, j < s0.length → j ≠ p → j ≠ q → s[j]? = s0[j]?
theorem bents_lc {k n p q b : Nat} {l : List (Str × Nat)} {rs : List (Str × List Nat)} {s0 : Store} {o0 o2 o3 o4 o7 o8 o9 : Option D} (hd : Dk n s0 p q) (hn : n ≤ 7000) (hl : Tags l) (hl1 : 1 ≤ l.length) (hr : Rows l rs) :
    (ev ⟨Mi.run tb gs 10000 (k + 4), gs⟩ b (.lc .range1 (.cons (.cint 12) .nil) (.nm 8) .nil (.call "_law_bent" 15 (.cons (.var 1) (.cons (.var 5) (.cons (.var 6) .nil)))) [8]) [o0, some (.loc p), o2, o3, o4, some (.tup (l.map tgD)), some (.tup (rs.map rwD)), o7, o8, o9] s0).S fun d s => d = .loc s0.length ∧ ∃ acc, BtP n p q s0 12 acc s := by
  have hp := hd.lt
  have hw : ((evA ⟨Mi.run tb gs 10000 (k + 4), gs⟩ b (.cons (.cint 12) .nil) [o0, some (.loc p), o2, o3, o4, some (.tup (l.map tgD)), some (.tup (rs.map rwD)), o7, o8, o9] s0).bind fun ds st0 => toW .range1 ds st0) = .ok (.items (rng 0 12)) s0 := by
    have a1 : evA ⟨Mi.run tb gs 10000 (k + 4), gs⟩ b (.cons (.cint 12) .nil) [o0, some (.loc p), o2, o3, o4, some (.tup (l.map tgD)), some (.tup (rs.map rwD)), o7, o8, o9] s0 = .ok [.int 12] s0 := by
      simp only [evA_cons, evA_nil, ev_cint, bind_ok']
    exact bind_ok a1 (toW_range1 (c := 12) (st := s0) (by decide) (by decide))
  have hb : BtP n p q s0 0 [] (s0 ++ [O.lst []]) := ⟨by simp, by simp, rfl, (fun _ h => by cases h), hd.app _, fun j hj _ _ => by rw [List.getElem?_append_left hj]⟩
  have z := S_lcI (R := ⟨Mi.run tb gs 10000 (k + 4), gs⟩) (b := b) (t := .nm 8) (e := .call "_law_bent" 15 (.cons (.var 1) (.cons (.var 5) (.cons (.var 6) .nil)))) (vs := [8]) hw hb fun j x acc s hj hP => ?_
  · rw [rng_len] at z
    exact z
  obtain ⟨g1, g2, g3, g4, g5, g6⟩ := hP
  obtain ⟨hjm, rfl⟩ := rng_getp hj
  refine ⟨_, rfl, ?_⟩
  simp only [ev_var, ev_cint, ev_cstr, ev_cbl, ev_cnon, ev_gl, ev_bty, ev_val, ev_tup, ev_lst, ev_dnew, ev_bin, ev_neg, ev_cmp, ev_cmp2, ev_and, ev_or, ev_one, ev_not, ev_ite, ev_ix, ev_sl, ev_rev, ev_call, ev_callk, ev_bi, ev_me, evA_nil, evA_cons, evT_and, evT_or, evT_one, evT_not, evT_ite, evT_nil, evT_cmp, evT_cmp2, evT_cons, evT_val, evP_nil, evP_val, ex_skip, ex_seq, ex_asg, ex_par, ex_six, ex_aug, ex_ex, ex_ret, ex_retN, ex_ife, ex_brk, ex_cont, S_bind, S_ok, some_some, asB_bl, asI_int, getS_z, getS_s, der_non, der_bl, der_int, pder_str, der_tup, der_lst, pder_dct, der_ty, cmp_lt_i, cmp_le_i, cmp_gt_i, cmp_ge_i, cmp_eq_i, cmp_ne_i, cmp_lt_s, cmp_le_s, cmp_eq_s, cmp_ne_s, cmp_eq_l0, cmp_ne_l0, fin_val, fin_dct, len_tup, len_lst, List.getElem?_cons_succ, List.getElem?_cons_zero, List.set_cons_succ, List.set_cons_zero, List.map_cons, List.map_nil, List.replicate, List.cons_append, List.nil_append, if_true, if_false, ite_true, ite_false, Bool.not_true, Bool.not_false, Bool.false_eq_true, Option.map_some]
  refine bent_run (k := k) g5 (by omega) hl hl1 hr fun d s2 hd2 hdk hs2 => ?_
  have hg2 : s2[s0.length]? = some (.lst acc) := by rw [hs2.2 _ (by omega) (by omega)]; exact g2
  have l2 := hs2.1
  refine ⟨hg2, by omega, by rw [List.length_set]; omega, List.getElem?_set_self (by omega), by rw [List.length_append, g3]; rfl, fun e he => ?_, (hdk.mono (by omega)).set (by omega) (by omega), fun i hi i1 i2 => ?_⟩
  · rcases List.mem_append.mp he with he | he
    · exact g4 e he
    · rw [List.mem_singleton.mp he]; exact hd2
  · rw [List.getElem?_set_ne (by omega), hs2.2 i i1 i2]
    exact g6 i hi i1 i2
def TuP (ns : List Int) (p q : Nat) (i : Nat) (σ : Sg) (s : Store) : Prop := ∃ o2 o5 o6 o7, σ = [some (.scr ns), some (.loc p), o2, none, none, o5, o6, o7, none, none] ∧ Dk (800 * i) s p q
theorem drop_sig {l : List (Str × Nat)} (hl : Tags l) : Sig ((l.drop 1).map tgD) (prsOf (l.drop 1)) := sig_of (by rw [List.length_drop]; have := hl.le; omega)
theorem turns_loop {k b p q : Nat} {ns : List Int} {s : Store} (h : Dk 0 s p q) :
    (ex ⟨Mi.run tb gs 10000 (k + 5), gs⟩ 10000 b (.for_ .range1 (.cons (.cint 5) .nil) (.nm 2) lawTurn) [some (.scr ns), some (.loc p), none, none, none, none, none, none, none, none] s).S fun f s => ∃ σ2, f = .nx σ2 ∧ TuP ns p q 5 σ2 s := by
  have a1 : evA ⟨Mi.run tb gs 10000 (k + 5), gs⟩ b (.cons (.cint 5) .nil) [some (.scr ns), some (.loc p), none, none, none, none, none, none, none, none] s = .ok [.int 5] s := by
    simp only [evA_cons, evA_nil, ev_cint, bind_ok']
  have z := ex_for_items (R := ⟨Mi.run tb gs 10000 (k + 5), gs⟩) (fu := 10000) (b := b) (bd := lawTurn) (t := .nm 2) (P := TuP ns p q) (bind_ok a1 (toW_range1 (c := 5) (st := s) (by decide) (by decide))) ⟨none, none, none, none, rfl, h⟩ fun j x σ s0 hj hP => ?_
  · rw [rng_len] at z
    exact z
  obtain ⟨o2, o5, o6, o7, rfl, hd⟩ := hP
  obtain ⟨hjm, rfl⟩ := rng_getp hj
  replace hjm : j < 5 := hjm
  refine ⟨_, rfl, ?_⟩
  unfold lawTurn
  simp only [ev_var, ev_cint, ev_cstr, ev_cbl, ev_cnon, ev_gl, ev_bty, ev_val, ev_tup, ev_lst, ev_dnew, ev_bin, ev_neg, ev_cmp, ev_cmp2, ev_and, ev_or, ev_one, ev_not, ev_ite, ev_ix, ev_sl, ev_rev, ev_call, ev_callk, ev_bi, ev_me, evA_nil, evA_cons, evT_and, evT_or, evT_one, evT_not, evT_ite, evT_nil, evT_cmp, evT_cmp2, evT_cons, evT_val, evP_nil, evP_val, ex_skip, ex_seq, ex_asg, ex_par, ex_six, ex_aug, ex_ex, ex_ret, ex_retN, ex_ife, ex_brk, ex_cont, S_bind, S_ok, some_some, asB_bl, asI_int, getS_z, getS_s, der_non, der_bl, der_int, pder_str, der_tup, der_lst, pder_dct, der_ty, cmp_lt_i, cmp_le_i, cmp_gt_i, cmp_ge_i, cmp_eq_i, cmp_ne_i, cmp_lt_s, cmp_le_s, cmp_eq_s, cmp_ne_s, cmp_eq_l0, cmp_ne_l0, fin_val, fin_dct, len_tup, len_lst, List.getElem?_cons_succ, List.getElem?_cons_zero, List.set_cons_succ, List.set_cons_zero, List.map_cons, List.map_nil, List.replicate, List.cons_append, List.nil_append, if_true, if_false, ite_true, ite_false, Bool.not_true, Bool.not_false, Bool.false_eq_true, Option.map_some, asgT]
  refine tags_run (k := k + 2) hd (by omega) fun l s1 hl hl1 hd1 hs1 => ?_
  try simp only [ev_var, ev_cint, ev_cstr, ev_cbl, ev_cnon, ev_gl, ev_bty, ev_val, ev_tup, ev_lst, ev_dnew, ev_bin, ev_neg, ev_cmp, ev_cmp2, ev_and, ev_or, ev_one, ev_not, ev_ite, ev_ix, ev_sl, ev_rev, ev_call, ev_callk, ev_bi, ev_me, evA_nil, evA_cons, evT_and, evT_or, evT_one, evT_not, evT_ite, evT_nil, evT_cmp, evT_cmp2, evT_cons, evT_val, evP_nil, evP_val, ex_skip, ex_seq, ex_asg, ex_par, ex_six, ex_aug, ex_ex, ex_ret, ex_retN, ex_ife, ex_brk, ex_cont, S_bind, S_ok, some_some, asB_bl, asI_int, getS_z, getS_s, der_non, der_bl, der_int, pder_str, der_tup, der_lst, pder_dct, der_ty, cmp_lt_i, cmp_le_i, cmp_gt_i, cmp_ge_i, cmp_eq_i, cmp_ne_i, cmp_lt_s, cmp_le_s, cmp_eq_s, cmp_ne_s, cmp_eq_l0, cmp_ne_l0, fin_val, fin_dct, len_tup, len_lst, List.getElem?_cons_succ, List.getElem?_cons_zero, List.set_cons_succ, List.set_cons_zero, List.map_cons, List.map_nil, List.replicate, List.cons_append, List.nil_append, if_true, if_false, ite_true, ite_false, Bool.not_true, Bool.not_false, Bool.false_eq_true, Option.map_some, asgT]
  refine rows_run (k := k + 2) hd1 (by omega) hl hl1 fun rs s2 hr hd2 hs2 => ?_
  try simp only [ev_var, ev_cint, ev_cstr, ev_cbl, ev_cnon, ev_gl, ev_bty, ev_val, ev_tup, ev_lst, ev_dnew, ev_bin, ev_neg, ev_cmp, ev_cmp2, ev_and, ev_or, ev_one, ev_not, ev_ite, ev_ix, ev_sl, ev_rev, ev_call, ev_callk, ev_bi, ev_me, evA_nil, evA_cons, evT_and, evT_or, evT_one, evT_not, evT_ite, evT_nil, evT_cmp, evT_cmp2, evT_cons, evT_val, evP_nil, evP_val, ex_skip, ex_seq, ex_asg, ex_par, ex_six, ex_aug, ex_ex, ex_ret, ex_retN, ex_ife, ex_brk, ex_cont, S_bind, S_ok, some_some, asB_bl, asI_int, getS_z, getS_s, der_non, der_bl, der_int, pder_str, der_tup, der_lst, pder_dct, der_ty, cmp_lt_i, cmp_le_i, cmp_gt_i, cmp_ge_i, cmp_eq_i, cmp_ne_i, cmp_lt_s, cmp_le_s, cmp_eq_s, cmp_ne_s, cmp_eq_l0, cmp_ne_l0, fin_val, fin_dct, len_tup, len_lst, List.getElem?_cons_succ, List.getElem?_cons_zero, List.set_cons_succ, List.set_cons_zero, List.map_cons, List.map_nil, List.replicate, List.cons_append, List.nil_append, if_true, if_false, ite_true, ite_false, Bool.not_true, Bool.not_false, Bool.false_eq_true, Option.map_some, asgT]
  refine copies_run (k := k + 2) hd2 (by omega) hl hr fun cs s3 hcs hd3 hs3 => ?_
  obtain ⟨X, hX⟩ : ∃ X, rs.map rwD = X := ⟨_, rfl⟩
  obtain ⟨r0, hr0⟩ : ∃ r0, rs[0]? = some r0 := ⟨_, List.getElem?_eq_getElem (by have := hr.pos; omega)⟩
  have i0 : ixD (.tup X) (.int 0) = .val (rwD r0) := ixT_nat (j := 0) (by rw [← hX, List.getElem?_map, hr0]; rfl)
  have f1 : ∀ u : D, fits [u] = true := fun _ => rfl
  have f2 : ∀ u v : D, fits [u, v] = true := fun _ _ => rfl
  have f0 : fits ([] : List D) = true := rfl
  have g13 : ∀ (u v w : D) (s : Store), (PR.newL [u, v, .tup [.tup [.str "void", .tup []]], .tup [], .non, .bl true, .int 0, .str "", .lst [], .dct [] [], .tup [.tup []], w, .tup [u]]).fin true s = .ok (.loc s.length) (s ++ [O.lst [u, v, .tup [.tup [.str "void", .tup []]], .tup [], .non, .bl true, .int 0, .str "", .lst [], .dct [] [], .tup [.tup []], w, .tup [u]]]) := fun u v w s => fin_lstO rfl
  have gE : ∀ (s : Store), (PR.newL []).fin false s = .ok (.lst []) s := fun s => fin_lst rfl
  have rX : ∀ c, ∀ e ∈ X, Ez 2 13000 c e := fun c => by rw [← hX]; exact rows_ez c hl hr
  have hXl : X.length ≤ 24 := by rw [← hX, List.length_map]; exact hr.le
  have rpX : Rp (.tup X) := tup_rp (c := true) (fun e he => (rX true e he).mono (by decide) (by decide)) (by omega)
  have rpC : Rp (.tup (cs.map rwD)) := tup_rp (c := true) (fun e he => by
    obtain ⟨r, hr, rfl⟩ := List.mem_map.mp he
    have := hcs.ok r hr
    exact (ez_row true this.1 (fun x hx => by have := this.2.2 x hx; omega) this.2.1).mono (by decide) (by decide)) (by rw [List.length_map]; exact hcs.le)
  have rpR : Rp (rwD r0) := (rX true _ (by rw [← hX]; exact List.mem_map.mpr ⟨r0, List.mem_of_getElem? hr0, rfl⟩)).rp (by decide) (by decide)
  have rpT : Rp (.tup [.tup X]) := (ez1 (ez_tup (rX true))).rp (by decide) (by
    have : X.length * (13000 + 2) ≤ 24 * (13000 + 2) := Nat.mul_le_mul_right _ hXl
    omega)
  have rpA : ∀ e ∈ [D.tup X, .tup (cs.map rwD), .tup [.tup [.str "void", .tup []]], .tup [], .non, .bl true, .int 0, .str "", .lst [], .dct [] [], .tup [.tup []], rwD r0, .tup [.tup X]], Rp e := by
    intro e he
    simp only [List.mem_cons, List.not_mem_nil, or_false] at he
    rcases he with rfl | rfl | rfl | rfl | rfl | rfl | rfl | rfl | rfl | rfl | rfl | rfl | rfl
    · exact rpX
    · exact rpC
    · exact rp_of (by decide +kernel)
    · exact rp_of (by decide +kernel)
    · exact rp_of (by decide +kernel)
    · exact rp_of (by decide +kernel)
    · exact rp_of (by decide +kernel)
    · exact rp_of (by decide +kernel)
    · exact rp_of (by decide +kernel)
    · exact rp_of (by decide +kernel)
    · exact rp_of (by decide +kernel)
    · exact rpR
    · exact rpT
  have hA : ∀ s : Store, (PR.newL [D.tup X, .tup (cs.map rwD), .tup [.tup [.str "void", .tup []]], .tup [], .non, .bl true, .int 0, .str "", .lst [], .dct [] [], .tup [.tup []], rwD r0, .tup [.tup X]]).fin true s = .ok (.loc s.length) (s ++ [O.lst [D.tup X, .tup (cs.map rwD), .tup [.tup [.str "void", .tup []]], .tup [], .non, .bl true, .int 0, .str "", .lst [], .dct [] [], .tup [.tup []], rwD r0, .tup [.tup X]]]) := fun s => g13 _ _ _ s
  generalize hAl : [D.tup X, .tup (cs.map rwD), .tup [.tup [.str "void", .tup []]], .tup [], .non, .bl true, .int 0, .str "", .lst [], .dct [] [], .tup [.tup []], rwD r0, .tup [.tup X]] = A at rpA hA
  have hAn : A.length = 13 := by rw [← hAl]; rfl
  generalize hs4 : s3 ++ [O.lst A] = s4
  have hd4 : Dk (800 * j + 9 + 62 + 600) s4 p q := by rw [← hs4]; exact hd3.app _
  have d4 : s4[s3.length]? = some (.lst A) := by rw [← hs4]; simp
  have l4 : s4.length = s3.length + 1 := by rw [← hs4]; simp
  simp only [ev_var, ev_cint, ev_cstr, ev_cbl, ev_cnon, ev_gl, ev_bty, ev_val, ev_tup, ev_lst, ev_dnew, ev_bin, ev_neg, ev_cmp, ev_cmp2, ev_and, ev_or, ev_one, ev_not, ev_ite, ev_ix, ev_sl, ev_rev, ev_call, ev_callk, ev_bi, ev_me, evA_nil, evA_cons, evT_and, evT_or, evT_one, evT_not, evT_ite, evT_nil, evT_cmp, evT_cmp2, evT_cons, evT_val, evP_nil, evP_val, ex_skip, ex_seq, ex_asg, ex_par, ex_six, ex_aug, ex_ex, ex_ret, ex_retN, ex_ife, ex_brk, ex_cont, S_bind, S_ok, some_some, asB_bl, asI_int, getS_z, getS_s, der_non, der_bl, der_int, pder_str, der_tup, der_lst, pder_dct, der_ty, cmp_lt_i, cmp_le_i, cmp_gt_i, cmp_ge_i, cmp_eq_i, cmp_ne_i, cmp_lt_s, cmp_le_s, cmp_eq_s, cmp_ne_s, cmp_eq_l0, cmp_ne_l0, fin_val, fin_dct, len_tup, len_lst, List.getElem?_cons_succ, List.getElem?_cons_zero, List.set_cons_succ, List.set_cons_zero, List.map_cons, List.map_nil, List.replicate, List.cons_append, List.nil_append, if_true, if_false, ite_true, ite_false, Bool.not_true, Bool.not_false, Bool.false_eq_true, Option.map_some, asgT, hX, i0, f1, f2, f0, gE, fin_dct, hAl, hA, hs4]
  have bl := bents_lc (k := k + 1) (b := b) (o0 := some (.scr ns)) (o2 := some (.int (0 + (j : Int)))) (o3 := none) (o4 := none) (o7 := some (.loc s3.length)) (o8 := none) (o9 := none) hd4 (by omega) hl hl1 hr
  rw [hX] at bl
  refine S_mono bl fun d s5 hds => ?_
  obtain ⟨rfl, B, b1, b2, b3, b4, b5, b6⟩ := hds
  have d5 : s5[s3.length]? = some (.lst A) := by rw [b6 _ (by omega) (by have := hd3.lt; omega) (by have := hd3.lt; omega)]; exact d4
  have fAB : fits (A ++ B) = true := fits_of (by rw [List.length_append]; have : big = 16777216 := rfl; omega)
  generalize hs6 : s5 ++ [O.lst (A ++ B)] = s6
  have d6 : s6[s5.length]? = some (.lst (A ++ B)) := by rw [← hs6]; simp
  have hd6 : Dk (800 * j + 9 + 62 + 600 + 6 * 12) s6 p q := by rw [← hs6]; exact b5.app _
  have rpAB : ∀ e ∈ A ++ B, Rp e := fun e he => by
    rcases List.mem_append.mp he with he | he
    · exact rpA e he
    · exact b4 e he
  have sg : Sig (l.map tgD) (prsOf l) := sig_of (by have := hl.le; omega)
  have r1 := sheet_run (k := k + 1) (b := b) (st := s6) sg.pr sg.ok (by rw [pairs_len sg.pr]; exact sg.len) rpX.g
  have rsh := rows_sheet hl hr
  rw [hX] at rsh
  rw [rsh] at r1
  have e1 : ev ⟨Mi.run tb gs 10000 (k + 5), gs⟩ b (.lc .seq (.cons (.var 7) .nil) (.nm 9) (.cons (.not (.val (.call "_law_right" 12 (.cons (.var 5) (.cons (.var 9) .nil))))) .nil) (.var 9) [9]) [some (.scr ns), some (.loc p), some (.int (0 + (j : Int))), none, none, some (.tup (l.map tgD)), some (.tup X), some (.loc s5.length), none, none] s6 = .ok (.loc s6.length) (s6 ++ [O.lst []]) := by
    have a1 : evA ⟨Mi.run tb gs 10000 (k + 5), gs⟩ b (.cons (.var 7) .nil) [some (.scr ns), some (.loc p), some (.int (0 + (j : Int))), none, none, some (.tup (l.map tgD)), some (.tup X), some (.loc s5.length), none, none] s6 = .ok [.loc s5.length] s6 := by
      simp only [evA_cons, evA_nil, ev_var, getS_s, getS_z, some_some, bind_ok']
    refine S_lcX0 (bind_ok a1 (toW_loc d6)) d6 fun x hx => ?_
    refine ⟨[some (.scr ns), some (.loc p), some (.int (0 + (j : Int))), none, none, some (.tup (l.map tgD)), some (.tup X), some (.loc s5.length), none, some x], rfl, ?_⟩
    have nr := right_run (k := k) (b := b) (st := s6 ++ [O.lst []]) sg (rpAB x hx)
    simp only [evT_cons, evT_not, evT_val, ev_call, evA_cons, evA_nil, ev_var, getS_s, getS_z, some_some, bind_ok', nr, der_bl, truD, Bool.not_true]
  have c0 : cmpS .NotEq (s6 ++ [O.lst []]) (.loc s6.length) (.lst []) = some false := cmp_ne_L0 (xs := []) (by simp)
  generalize hs7 : s6 ++ [O.lst []] = s7 at e1 c0
  have hd7 : Dk (800 * j + 9 + 62 + 600 + 6 * 12) s7 p q := by rw [← hs7]; exact hd6.app _
  have q1 := right_run (k := k) (b := b) (st := s7) (es := []) (l := []) ⟨rfl, (fun _ h => by cases h), by decide⟩ rpX
  have q2 := right_run (k := k) (b := b) (st := s7) (drop_sig hl) rpX
  have sl1 : slD (.tup (l.map tgD)) (some 1) none = .val (.tup ((l.drop 1).map tgD)) := by
    show PR.val (.tup (cut (l.map tgD) (some ((1 : Nat) : Int)) none)) = _
    rw [cut_from, List.map_drop]
  simp only [ev_var, ev_cint, ev_cstr, ev_cbl, ev_cnon, ev_gl, ev_bty, ev_val, ev_tup, ev_lst, ev_dnew, ev_bin, ev_neg, ev_cmp, ev_cmp2, ev_and, ev_or, ev_one, ev_not, ev_ite, ev_ix, ev_sl, ev_rev, ev_call, ev_callk, ev_bi, ev_me, evA_nil, evA_cons, evT_and, evT_or, evT_one, evT_not, evT_ite, evT_nil, evT_cmp, evT_cmp2, evT_cons, evT_val, evP_nil, evP_val, ex_skip, ex_seq, ex_asg, ex_par, ex_six, ex_aug, ex_ex, ex_ret, ex_retN, ex_ife, ex_brk, ex_cont, S_bind, S_ok, some_some, asB_bl, asI_int, getS_z, getS_s, der_non, der_bl, der_int, pder_str, der_tup, der_lst, pder_dct, der_ty, cmp_lt_i, cmp_le_i, cmp_gt_i, cmp_ge_i, cmp_eq_i, cmp_ne_i, cmp_lt_s, cmp_le_s, cmp_eq_s, cmp_ne_s, cmp_eq_l0, cmp_ne_l0, fin_val, fin_dct, len_tup, len_lst, List.getElem?_cons_succ, List.getElem?_cons_zero, List.set_cons_succ, List.set_cons_zero, List.map_cons, List.map_nil, List.replicate, List.cons_append, List.nil_append, if_true, if_false, ite_true, ite_false, Bool.not_true, Bool.not_false, Bool.false_eq_true, Option.map_some, der_locL d5, der_locL b2, bin_addL, fin_lstO fAB, hs6, asgT, r1, cmp_isnot_bl, decide_true, e1, hs7, gE, c0, f0, q1, q2, sl1, truD]
  refine tags_run (k := k + 2) hd7 (by omega) fun l' s8 hl' hl1' hd8 hs8 => ?_
  have sg' : Sig (l'.map tgD) (prsOf l') := sig_of (by have := hl'.le; omega)
  have q3 := right_run (k := k) (b := b) (st := s8) sg' rpX
  simp only [ev_var, ev_cint, ev_cstr, ev_cbl, ev_cnon, ev_gl, ev_bty, ev_val, ev_tup, ev_lst, ev_dnew, ev_bin, ev_neg, ev_cmp, ev_cmp2, ev_and, ev_or, ev_one, ev_not, ev_ite, ev_ix, ev_sl, ev_rev, ev_call, ev_callk, ev_bi, ev_me, evA_nil, evA_cons, evT_and, evT_or, evT_one, evT_not, evT_ite, evT_nil, evT_cmp, evT_cmp2, evT_cons, evT_val, evP_nil, evP_val, ex_skip, ex_seq, ex_asg, ex_par, ex_six, ex_aug, ex_ex, ex_ret, ex_retN, ex_ife, ex_brk, ex_cont, S_bind, S_ok, some_some, asB_bl, asI_int, getS_z, getS_s, der_non, der_bl, der_int, pder_str, der_tup, der_lst, pder_dct, der_ty, cmp_lt_i, cmp_le_i, cmp_gt_i, cmp_ge_i, cmp_eq_i, cmp_ne_i, cmp_lt_s, cmp_le_s, cmp_eq_s, cmp_ne_s, cmp_eq_l0, cmp_ne_l0, fin_val, fin_dct, len_tup, len_lst, List.getElem?_cons_succ, List.getElem?_cons_zero, List.set_cons_succ, List.set_cons_zero, List.map_cons, List.map_nil, List.replicate, List.cons_append, List.nil_append, if_true, if_false, ite_true, ite_false, Bool.not_true, Bool.not_false, Bool.false_eq_true, Option.map_some, q3, truD]
  exact ⟨_, rfl, _, _, _, _, rfl, hd8.mono (by omega)⟩
def longF (d : D) : D := match d with
  | .int i => .tup [.str "a", .tup [.int i, .int ((i + 1) % 200)]]
  | _ => .non
def long : D := .tup (((rng 0 200).filter fun _ => true).map longF)
def odd3 : List D := [.tup [.tup [.lst [.str "a"], .tup [.int 0, .int 0]]], .tup [.tup [.dct [] [], .tup []]], .tup [.tup [.lst [.str "void"], .tup []]]]
theorem long_rp : Rp long := rp_of (by decide +kernel)
theorem odd3_rp : ∀ x ∈ odd3, Rp x := rp_all (by decide +kernel)
theorem law_run {ns : List Int} : (Mi.run tb gs 10000 21 16 [.scr ns] 0 [O.tab, O.tab]).S fun v _ => v = .bl true := by
  refine S_run (fn := f_law) (k := 20) rfl rfl ?_
  rw [law_body]
  have hgc : f_law.gc = true := rfl
  have hnp : f_law.nl = 9 := rfl
  rw [hgc, hnp]
  have l2 : ([O.tab, O.tab] : Store).length = 2 := rfl
  simp only [ev_var, ev_cint, ev_cstr, ev_cbl, ev_cnon, ev_gl, ev_bty, ev_val, ev_tup, ev_lst, ev_dnew, ev_bin, ev_neg, ev_cmp, ev_cmp2, ev_and, ev_or, ev_one, ev_not, ev_ite, ev_ix, ev_sl, ev_rev, ev_call, ev_callk, ev_bi, ev_me, evA_nil, evA_cons, evT_and, evT_or, evT_one, evT_not, evT_ite, evT_nil, evT_cmp, evT_cmp2, evT_cons, evT_val, evP_nil, evP_val, ex_skip, ex_seq, ex_asg, ex_par, ex_six, ex_aug, ex_ex, ex_ret, ex_retN, ex_ife, ex_brk, ex_cont, S_bind, S_ok, some_some, asB_bl, asI_int, getS_z, getS_s, der_non, der_bl, der_int, pder_str, der_tup, der_lst, pder_dct, der_ty, cmp_lt_i, cmp_le_i, cmp_gt_i, cmp_ge_i, cmp_eq_i, cmp_ne_i, cmp_lt_s, cmp_le_s, cmp_eq_s, cmp_ne_s, cmp_eq_l0, cmp_ne_l0, fin_val, fin_dct, len_tup, len_lst, List.getElem?_cons_succ, List.getElem?_cons_zero, List.set_cons_succ, List.set_cons_zero, List.map_cons, List.map_nil, List.replicate, List.cons_append, List.nil_append, if_true, if_false, ite_true, ite_false, Bool.not_true, Bool.not_false, Bool.false_eq_true, Option.map_some, l2]
  refine deck_run (k := 19) fun s hl hd ht => ?_
  rw [l2] at hl hd
  have h5 : ([O.tab, O.tab] : Store).length + 3 = 5 := rfl
  simp only [ev_var, ev_cint, ev_cstr, ev_cbl, ev_cnon, ev_gl, ev_bty, ev_val, ev_tup, ev_lst, ev_dnew, ev_bin, ev_neg, ev_cmp, ev_cmp2, ev_and, ev_or, ev_one, ev_not, ev_ite, ev_ix, ev_sl, ev_rev, ev_call, ev_callk, ev_bi, ev_me, evA_nil, evA_cons, evT_and, evT_or, evT_one, evT_not, evT_ite, evT_nil, evT_cmp, evT_cmp2, evT_cons, evT_val, evP_nil, evP_val, ex_skip, ex_seq, ex_asg, ex_par, ex_six, ex_aug, ex_ex, ex_ret, ex_retN, ex_ife, ex_brk, ex_cont, S_bind, S_ok, some_some, asB_bl, asI_int, getS_z, getS_s, der_non, der_bl, der_int, pder_str, der_tup, der_lst, pder_dct, der_ty, cmp_lt_i, cmp_le_i, cmp_gt_i, cmp_ge_i, cmp_eq_i, cmp_ne_i, cmp_lt_s, cmp_le_s, cmp_eq_s, cmp_ne_s, cmp_eq_l0, cmp_ne_l0, fin_val, fin_dct, len_tup, len_lst, List.getElem?_cons_succ, List.getElem?_cons_zero, List.set_cons_succ, List.set_cons_zero, List.map_cons, List.map_nil, List.replicate, List.cons_append, List.nil_append, if_true, if_false, ite_true, ite_false, Bool.not_true, Bool.not_false, Bool.false_eq_true, Option.map_some, asgT, h5]
  refine S_mono (turns_loop (k := 15) (q := 4) hd) fun f s1 hf => ?_
  obtain ⟨σ1, rfl, o2, o5, o6, o7, rfl, hd1⟩ := hf
  have f2 : ∀ u v : D, fits [u, v] = true := fun _ _ => rfl
  have f1 : ∀ u : D, fits [u] = true := fun _ => rfl
  have f0 : fits ([] : List D) = true := rfl
  have mo : ∀ x : Int, binD .Mod (.int x) (.int 200) = .val (.int (x % 200)) := fun x => bin_mod (by decide)
  have e1 : ev ⟨Mi.run tb gs 10000 20, gs⟩ 2 (.lc .range1 (.cons (.cint 200) .nil) (.nm 8) .nil (.tup (.cons (.cstr "a") (.cons (.tup (.cons (.var 8) (.cons (.bin false .Mod (.bin false .Add (.var 8) (.cint 1)) (.cint 200)) .nil))) .nil))) [8]) [some (.scr ns), some (.loc 5), o2, none, none, o5, o6, o7, none, none] s1 = .ok (.loc s1.length) (s1 ++ [O.lst (((rng 0 200).filter fun _ => true).map longF)]) := by
    have a1 : evA ⟨Mi.run tb gs 10000 20, gs⟩ 2 (.cons (.cint 200) .nil) [some (.scr ns), some (.loc 5), o2, none, none, o5, o6, o7, none, none] s1 = .ok [.int 200] s1 := by
      simp only [evA_cons, evA_nil, ev_cint, bind_ok']
    refine S_lc (bind_ok a1 (toW_range1 (c := 200) (st := s1) (by decide) (by decide))) (by rw [rng_len]; decide) fun x hx acc => ?_
    obtain ⟨i, hi, rfl⟩ := rng_mem hx
    refine ⟨[some (.scr ns), some (.loc 5), o2, none, none, o5, o6, o7, some (.int (0 + (i : Int))), none], rfl, by rw [evT_nil], fun _ => ?_⟩
    simp only [ev_tup, evA_cons, evA_nil, ev_cstr, ev_bin, ev_var, ev_cint, getS_s, getS_z, some_some, bind_ok', der_int, bin_add, mo, fin_val, f2, if_true]
    rfl
  generalize hs2 : s1 ++ [O.lst (((rng 0 200).filter fun _ => true).map longF)] = s2 at e1
  have d2 : s2[s1.length]? = some (.lst (((rng 0 200).filter fun _ => true).map longF)) := by rw [← hs2]; simp
  have tp : biD .tuple [.lst (((rng 0 200).filter fun _ => true).map longF)] = .val long := rfl
  have z1 : ∀ (u : D) (st : Store), (PR.newL [u]).fin false st = .ok (.lst [u]) st := fun u st => fin_lst rfl
  have g3 : ∀ s : Store, (PR.newL [D.tup [.tup [.lst [.str "a"], .tup [.int 0, .int 0]]], .tup [.tup [.dct [] [], .tup []]], .tup [.tup [.lst [.str "void"], .tup []]]]).fin true s = .ok (.loc s.length) (s ++ [O.lst odd3]) := fun s => fin_lstO rfl
  generalize hs3 : s2 ++ [O.lst odd3] = s3
  have d3 : s3[s2.length]? = some (.lst odd3) := by rw [← hs3]; simp
  have sgA : ∀ m : Nat, Sig [.tup [.str "a", .int (m : Int)]] (prsOf [("a", m)]) := fun m => sig_of (l := [("a", m)]) (by show 1 ≤ 1000; decide)
  have e2 : ev ⟨Mi.run tb gs 10000 20, gs⟩ 2 (.lc .seq (.cons (.var 4) .nil) (.nm 9) (.cons (.not (.val (.call "_law_right" 12 (.cons (.tup (.cons (.tup (.cons (.cstr "a") (.cons (.cint 2) .nil))) .nil)) (.cons (.var 9) .nil))))) .nil) (.var 9) [9]) [some (.scr ns), some (.loc 5), o2, some long, some (.loc s2.length), o5, o6, o7, none, none] s3 = .ok (.loc s3.length) (s3 ++ [O.lst []]) := by
    have a1 : evA ⟨Mi.run tb gs 10000 20, gs⟩ 2 (.cons (.var 4) .nil) [some (.scr ns), some (.loc 5), o2, some long, some (.loc s2.length), o5, o6, o7, none, none] s3 = .ok [.loc s2.length] s3 := by
      simp only [evA_cons, evA_nil, ev_var, getS_s, getS_z, some_some, bind_ok']
    refine S_lcX0 (bind_ok a1 (toW_loc d3)) d3 fun x hx => ?_
    refine ⟨[some (.scr ns), some (.loc 5), o2, some long, some (.loc s2.length), o5, o6, o7, none, some x], rfl, ?_⟩
    have nr := right_run (k := 15) (b := 2) (st := s3 ++ [O.lst []]) (sgA 2) (odd3_rp x hx)
    have nr' : Mi.run tb gs 10000 20 12 [.tup [.tup [.str "a", .int 2]], x] 2 (s3 ++ [O.lst []]) = .ok (.bl true) (s3 ++ [O.lst []]) := nr
    simp only [evT_cons, evT_not, evT_val, ev_call, ev_tup, ev_cstr, ev_cint, f1, f2, if_true, evA_cons, evA_nil, ev_var, getS_s, getS_z, some_some, bind_ok', nr', der_bl, truD, Bool.not_true]
  have c0 : cmpS .NotEq (s3 ++ [O.lst []]) (.loc s3.length) (.lst []) = some false := cmp_ne_L0 (xs := []) (by simp)
  generalize hs4 : s3 ++ [O.lst []] = s4 at e2 c0
  have q1 : Mi.run tb gs 10000 20 12 [.tup [.tup [.str "a", .int 2]], long] 2 s4 = .ok (.bl true) s4 := right_run (k := 15) (sgA 2) long_rp
  have q2 : Mi.run tb gs 10000 20 12 [.tup [.tup [.str "a", .int 1]], long] 2 s4 = .ok (.bl true) s4 := right_run (k := 15) (sgA 1) long_rp
  have q3 : Mi.run tb gs 10000 20 12 [.tup [], .tup [.tup [.str "void", .tup []]]] 2 s4 = .ok (.bl true) s4 := right_run (k := 15) (es := []) (l := []) ⟨rfl, (fun _ h => by cases h), by decide⟩ (rp_of (by decide +kernel))
  simp only [ev_var, ev_cint, ev_cstr, ev_cbl, ev_cnon, ev_gl, ev_bty, ev_val, ev_tup, ev_lst, ev_dnew, ev_bin, ev_neg, ev_cmp, ev_cmp2, ev_and, ev_or, ev_one, ev_not, ev_ite, ev_ix, ev_sl, ev_rev, ev_call, ev_callk, ev_bi, ev_me, evA_nil, evA_cons, evT_and, evT_or, evT_one, evT_not, evT_ite, evT_nil, evT_cmp, evT_cmp2, evT_cons, evT_val, evP_nil, evP_val, ex_skip, ex_seq, ex_asg, ex_par, ex_six, ex_aug, ex_ex, ex_ret, ex_retN, ex_ife, ex_brk, ex_cont, S_bind, S_ok, some_some, asB_bl, asI_int, getS_z, getS_s, der_non, der_bl, der_int, pder_str, der_tup, der_lst, pder_dct, der_ty, cmp_lt_i, cmp_le_i, cmp_gt_i, cmp_ge_i, cmp_eq_i, cmp_ne_i, cmp_lt_s, cmp_le_s, cmp_eq_s, cmp_ne_s, cmp_eq_l0, cmp_ne_l0, fin_val, fin_dct, len_tup, len_lst, List.getElem?_cons_succ, List.getElem?_cons_zero, List.set_cons_succ, List.set_cons_zero, List.map_cons, List.map_nil, List.replicate, List.cons_append, List.nil_append, if_true, if_false, ite_true, ite_false, Bool.not_true, Bool.not_false, Bool.false_eq_true, Option.map_some, asgT, e1, der_locL d2, tp, z1, f1, f2, f0, fin_dct, g3, hs3, e2, c0, fin_lst f0, q1, q2, q3]
  rfl
theorem plain : ∀ ns : List Int, ns.length ≤ 63 → ∃ st, Mi.run tb gs 10000 21 16 [.scr ns] 0 (List.replicate 2 O.tab) = .ok (.bl true) st := by
  intro ns _
  obtain ⟨v, st, e, rfl⟩ := S_get (law_run (ns := ns))
  exact ⟨st, e⟩
end K01
end
theorem PySem.Challenge.cw_roundties_k01_sheets_of_any_value_holds : PySem.Challenge.rw_roundties_k01_sheets_of_any_value.Holds := by
  exact K01.holds_of K01.plain
