import PyProof.Rows.All
import Wide.All
import OpenK.AllK
import Wide.FinOn
import HandS.ForMost
import HandS.Exc
import HandS.HeadHook2
import HandS.HeadHook4
import HandS.Lambda
import HandS.NestedK
import HandS.ExcInit
import HandS.TupAny
import HandS.Conv
import HandS.Wide
import HandS.TupLen
import HandS.RaiseMore
import HandS.IsInst
import KE.KDictPairs
import HandS.ExcOwn
import HandS.CallSlots
import HandS.Iter
import KE.KDictWalk
import HandS.Zip
import HandS.TryOnly
import HandS.Comp
import HandS.DictComp
import HandS.Style
import HandS.Set
import HandS.SetFor
import HandS.TupSets
import HandS.More
import KE.SortData
import HandS.SortOrd
import PyProof.Rows.StrMeet
import HandS.Strs
import HandS.SortInts
import KE.GoesMore
import KE.KDictZip
import HandS.OwnIter
import HandS.IterVal
import PyProof.InstNe
import KE.KExcSuper
import KE.KSuper
import HandS.ExcSuper
import HandS.ExcField
import HandS.TryMany
import HandS.Nested
import KE.KExcIs
import HandS.ExcIs
import HandS.ExcValue
import HandS.GenCall
import HandS.GenList
import HandS.ListItems
import KE.KItemsList
import KE.KDictList
import KE.KDictDisplayH
import HandS.Star
import HandS.ClsMeth
import HandS.HeadHook1
import HandS.Defaults
import HandS.Head0
import HandS.Head1
import HandS.Head2
import HandS.HeadEnd
import HandS.Words
import HandS.HeadWalk
import PySem.Challenge.RW_linkedfaults_k01_errors_made
set_option Elab.async false
set_option linter.all false
set_option maxRecDepth 100000
set_option maxHeartbeats 4000000
section
namespace Rf
open PySem L2
inductive D where
  | non
  | bl (b : Bool)
  | int (i : Int)
  | str (s : Str)
  | tup (xs : List D)
  | e0
  | lst (xs : List D)
  | scr (ns : List Int)
  | dk (kvs : List (Key × D))
  | dt (kvs : List (List Key × D))
  | ins (c : Str) (fs : List (Str × D))
  | hd (k : Nat)
  | exn (c : Str) (fs : List (Str × D))
inductive Ob where
  | dead
  | lst (xs : List D)
  | dk (kvs : List (Key × D))
  | dt (kvs : List (List Key × D))
  | ins (c : Str) (fs : List (Str × D))
abbrev Sto := List Ob
def fracB : List D → Bool
  | [.int _, .int _] => true
  | _ => false
abbrev Frg := PySem.W.Frag
structure Mu where
  f : Nat → Addr
  hid : List Addr
instance : CoeFun Mu fun _ => Nat → Addr := ⟨Mu.f⟩
mutual
def Rep (K : Frg) (G : Hp) (μ : Mu) (n : Nat) : D → V → Prop
  | .non, v => v = .non
  | .bl b, v => v = .bl b
  | .int i, v => v = .int i
  | .str s, v => v = .str s
  | .tup xs, v => ∃ p vs, v = .ref p ∧ Reps K G μ n xs vs ∧ vs.length ≤ sizeLine ∧ (G p = some (.tup vs) ∨ (fracB xs = true ∧ SqT K G p vs))
  | .e0, v => ∃ p, v = .ref p ∧ SqT K G p []
  | .lst xs, v => ∃ p vs, v = .ref p ∧ Reps K G μ n xs vs ∧ vs.length ≤ sizeLine ∧ G p = some (.lst vs)
  | .scr ns, v => ∃ p, v = .ref p ∧ ns.length ≤ 63 ∧ SqL K G p (ns.map V.int)
  | .dk kvs, v => ∃ p ws od, v = .ref p ∧ RepK K G μ n kvs ws ∧ G p = some (.frz od (.dK ws))
  | .dt kvs, v => ∃ p ws od, v = .ref p ∧ RepT K G μ n kvs ws ∧ G p = some (.frz od (.dT ws))
  | .ins c fs, v => ∃ p dx ws, v = .ref p ∧ RepS K G μ n fs ws ∧ G p = some (.ins (He.ga K c) dx ws)
  | .hd k, v => k < n ∧ v = .ref (μ k)
  | .exn c fs, v => ∃ p, v = .ref p ∧ ((fs = [] ∧ G p = some (exo p (He.ga K c) none)) ∨ ∃ d ws, G p = some (exo p (He.ga K c) (some d)) ∧ G d = some (exd d ws) ∧ RepS K G μ n fs ws)
def Reps (K : Frg) (G : Hp) (μ : Mu) (n : Nat) : List D → List V → Prop
  | [], vs => vs = []
  | d :: ds, vs => ∃ v ws, vs = v :: ws ∧ Rep K G μ n d v ∧ Reps K G μ n ds ws
def RepK (K : Frg) (G : Hp) (μ : Mu) (n : Nat) : List (Key × D) → List (Key × V) → Prop
  | [], ws => ws = []
  | (k, d) :: r, ws => ∃ v w', ws = (k, v) :: w' ∧ Rep K G μ n d v ∧ RepK K G μ n r w'
def RepT (K : Frg) (G : Hp) (μ : Mu) (n : Nat) : List (List Key × D) → List (List Key × V) → Prop
  | [], ws => ws = []
  | (k, d) :: r, ws => ∃ v w', ws = (k, v) :: w' ∧ Rep K G μ n d v ∧ RepT K G μ n r w'
def RepS (K : Frg) (G : Hp) (μ : Mu) (n : Nat) : List (Str × D) → List (Str × V) → Prop
  | [], ws => ws = []
  | (k, d) :: r, ws => ∃ v w', ws = (k, v) :: w' ∧ Rep K G μ n d v ∧ RepS K G μ n r w'
end
structure Tr (K : Frg) (G : Hp) (μ : Mu) (n : Nat) (G' : Hp) (μ' : Mu) (n' : Nat) : Prop where
  le : ∀ a o, G a = some o → G' a = some o
  mu : ∀ k, k < n → μ' k = μ k
  len : n ≤ n'
section
variable {K : Frg} {G G' : Hp} {μ μ' : Mu} {n n' : Nat}
end
end Rf
end
section
namespace Rf
open PySem L2
def Alive (Ω : Sto) (k : Nat) : Prop := ∃ o, Ω[k]? = some o ∧ o ≠ .dead
def addrs0 (μ : Mu) (Ω : Sto) : List Addr := (List.range Ω.length).filterMap fun k => match (Ω[k]? : Option Ob) with
  | none => none
  | some Ob.dead => none
  | some _ => some (μ k)
def addrs (μ : Mu) (Ω : Sto) : List Addr := addrs0 μ Ω ++ μ.hid
def NoT (o : HO) : Prop := ∀ ps, o ≠ .tbl ps
def noT : Option HO → Option HO
  | some (.tbl _) => none
  | o => o
def Fz (H : Hp) (μ : Mu) (Ω : Sto) : Hp := fun a => if a ∈ addrs μ Ω then none else noT (H a)
def Off (μ : Mu) (Ω : Sto) (a : Addr) : Prop := (∀ k, Alive Ω k → μ k ≠ a) ∧ a ∉ μ.hid
def ORep (K : Frg) (G : Hp) (μ : Mu) (n : Nat) : Ob → HO → Prop
  | .dead, _ => False
  | .lst xs, o => ∃ vs, o = .lst vs ∧ Reps K G μ n xs vs ∧ vs.length ≤ sizeLine
  | .dk kvs, o => ∃ ws, o = .dK ws ∧ RepK K G μ n kvs ws
  | .dt kvs, o => ∃ ws, o = .dT ws ∧ RepT K G μ n kvs ws
  | .ins c fs, o => ∃ dx ws, o = .ins (He.ga K c) dx ws ∧ RepS K G μ n fs ws
def MutN : Option HO → Prop
  | some (.lst _) => True
  | some (.dK _) => True
  | some (.dT _) => True
  | some (.ins _ _ _) => True
  | some (.frz _ _) => True
  | _ => False
def csOf (K : Frg) : List (Addr × Addr × Str) := K.filterMap fun q => match q.2 with
  | ⟨_, _, .func fd, _⟩ => (match fd.code with
    | .ref c => if PySem.W.codeHdIn K c (He.tabOf K c) then some (c, He.tabOf K c, fd.qualname ++ ".<locals>." ++ "<lambda>") else none
    | _ => none)
  | _ => none
def tbs (K : Frg) : List (Addr × Str) := (csOf K).map (·.2)
structure Wf (K : Frg) (H : Hp) (μ : Mu) (Ω : Sto) : Prop where
  inj : ∀ j k, Alive Ω j → Alive Ω k → μ j = μ k → j = k
  ob : ∀ k o, Ω[k]? = some o → o ≠ .dead → ∃ ho, H (μ k) = some ho ∧ ORep K (Fz H μ Ω) μ Ω.length o ho
  hin : ∀ a, a ∈ μ.hid → MutN (H a)
  hof : ∀ k, Alive Ω k → μ k ∉ μ.hid
  tab : LamX.Tabs (tbs K) H
structure Ext (K : Frg) (H : Hp) (μ : Mu) (Ω : Sto) (H' : Hp) (μ' : Mu) (Ω' : Sto) : Prop where
  wf : Wf K H' μ' Ω'
  fz : ∀ a o, Fz H μ Ω a = some o → Fz H' μ' Ω' a = some o
  mu : ∀ k, k < Ω.length → μ' k = μ k
  len : Ω.length ≤ Ω'.length
  hid : μ'.hid = μ.hid
  hkp : ∀ a, a ∈ μ.hid → H' a = H a
section
variable {K : Frg} {H H' H'' G G' : Hp} {μ μ' μ'' : Mu} {Ω Ω' Ω'' : Sto} {n n' : Nat}
structure Lat (K : Frg) (H : Hp) (μ : Mu) (Ω : Sto) (H' : Hp) (μ' : Mu) (Ω' : Sto) : Prop where
  wf : Wf K H' μ' Ω'
  fz : ∀ a o, Fz H μ Ω a = some o → Fz H' μ' Ω' a = some o
  mu : ∀ k, k < Ω.length → μ' k = μ k
  len : Ω.length ≤ Ω'.length
def pushM (μ : Mu) (n : Nat) (p : Addr) : Mu := ⟨fun k => if k = n then p else μ k, μ.hid⟩
def Mu.hide (μ : Mu) (p : Addr) : Mu := ⟨μ.f, p :: μ.hid⟩
def Mu.show (μ : Mu) : Mu := ⟨μ.f, μ.hid.tail⟩
end
section
variable {K : Frg} {G : Hp} {μ : Mu} {n : Nat}
end
end Rf
end
section
namespace Rf
open PySem L2
inductive Bi where
  | len | abs | all | any | int | str | list | tuple | dict | sorted | sum | mn
  deriving DecidableEq
def Bi.name : Bi → Str
  | .len => "len" | .abs => "abs" | .all => "all" | .any => "any" | .int => "int" | .str => "str" | .list => "list" | .tuple => "tuple" | .dict => "dict" | .sorted => "sorted" | .sum => "sum" | .mn => "min"
inductive Mt where
  | append | extend | pop | popi | join | get1 | get2 | clear
  deriving DecidableEq
def Mt.name : Mt → Str
  | .append => "append" | .extend => "extend" | .pop => "pop" | .popi => "pop" | .join => "join" | .get1 => "get" | .get2 => "get" | .clear => "clear"
inductive Ty where
  | int | bool | str | list | tuple | dict | own (c : Str)
  deriving DecidableEq
inductive Tg where
  | nm (i : Nat) | tp (is : List Nat)
inductive Xq where
  | leaf | base | blt
  deriving DecidableEq
def Xq.is (k : Xq) (q c : Str) : Bool := match k with
  | .leaf => decide (q = c)
  | _ => true
mutual
inductive E where
  | var (i : Nat)
  | glo (x : Str)
  | non
  | bl (b : Bool)
  | int (i : Int)
  | str (s : Str)
  | tup (es : EL)
  | lst (es : EL)
  | newl (es : EL)
  | newk
  | newt
  | newb (a : E)
  | newc (own : List Nat) (tg : Tg) (s : Sr) (c : EO) (e : E)
  | op2 (o : Operator) (a b : E)
  | neg (a : E)
  | not (a : E)
  | and (es : EL)
  | or (es : EL)
  | ite (c a b : E)
  | cmp (o : CmpOp) (a b : E)
  | isn (a : E)
  | notn (a : E)
  | chn (o p : CmpOp) (a b c : E)
  | idx (a b : E)
  | slc (a : E) (lo hi : EO)
  | fld (a : E) (f : Str)
  | call (f : Str) (es : EL) (j : Nat)
  | mk (c q : Str) (es : EL) (j : Nat)
  | mcall (a : E) (c m q : Str) (es : EL) (j : Nat)
  | bi (f : Bi) (es : EL)
  | meth (a : E) (m : Mt) (es : EL)
  | isi (a : E) (ts : List Ty)
  | sset (a : E)
  | lzip (a b : E)
  | lins (a : E) (c : Str)
  | lc (own : List Nat) (tg : Tg) (s : Sr) (c : EO) (e : E)
  | lc2 (own own1 : List Nat) (tg : Tg) (s : Sr) (tg1 : Tg) (s1 : Sr) (c : EO) (e : E)
  | dc (own : List Nat) (tg : Tg) (s : Sr) (c : EO) (k v : E)
  | frz (a : E)
  | opI (o : Operator) (a : E) (c m q : Str) (b : E)
  | idxI (a : E) (c q : Str) (b : E)
  | lenI (a : E) (c : Str)
  | inI (neg : Bool) (a b : E) (c q : Str)
  | eqI (neg : Bool) (a b : E) (c q : Str)
  | dupd (a k v : E)
  | dmrg (a b : E)
  | dsp (es : EL)
  | dspt (es : EL)
  | dct (own : List Nat) (tg : Tg) (s : Sr) (c : EO) (k v : E)
  | lvals (a : E)
  | nonv (a : E)
  | lgen (f : Str) (es : EL)
  | lstS (es : EL) (a : E)
  | newd (a : E)
  | mko (c q : Str) (es : EL) (j : Nat)
  | newdc (own : List Nat) (tg : Tg) (s : Sr) (c : EO) (k v : E)
  | newdsp (es : EL)
  | emp (neg : Bool) (a : E)
  | popk (a k : E)
  | callq (f q : Str) (es : EL) (j : Nat)
  | lcall (f : Str) (es : EL) (j : Nat)
  | lcd (own : List Nat) (tg : Tg) (a : E) (c : EO) (e : E)
  | lcl (own : List Nat) (tg : Tg) (a : E) (c : EO) (e : E)
  | lend (is : List Nat) (e : E)
  | newc2 (own own1 : List Nat) (tg : Tg) (s : Sr) (tg1 : Tg) (s1 : Sr) (c : EO) (e : E)
  | litems (a : E)
  | lamc (f : Str) (e : E)
  | isb (neg : Bool) (a : E) (b : Bool)
  | exn (c : Str) (es : EL)
  | exnk (c f : Str) (e : E)
  | exn0 (c : Str)
  | xfl (a : E) (f : Str)
  | isx (a : E) (c : Str) (k : Xq)
  | nope
inductive EL where
  | nil
  | cons (e : E) (r : EL)
inductive EO where
  | none
  | some (e : E)
inductive Sr where
  | val (e : E)
  | items (e : E)
  | itemsT (e : E)
  | vals (e : E)
  | enum (e : E)
  | zip (a b : E)
  | rng (a : E)
  | rng2 (a b : E)
  | inst (e : E) (c : Str)
end
inductive HV where
  | tag (s f : Str)
  | fld (f : Str)
  | con (e : E)
inductive HA where
  | set (i : Nat) (v : HV)
  | ret (v : HV)
structure Hd where
  c : Str
  as : Option Nat
  act : HA
mutual
inductive S where
  | asg (tg : Tg) (e : E)
  | par (is : List Nat) (es : EL)
  | fset (a : E) (f : Str) (e : E)
  | iset (a b e : E)
  | iset2 (a k b l e : E)
  | expr (e : E)
  | ret (e : E)
  | retN
  | ife (c : E) (t f : SL)
  | for (tg : Tg) (s : Sr) (b : SL)
  | forl (tg : Tg) (e : E) (b : SL)
  | whl (c : E) (b : SL)
  | raise (c : Str) (es : EL)
  | tr (b : SL) (hs : List Hd)
  | fz (i : Nat) (s : S)
  | brk
  | cnt
  | pass
  | nope
inductive SL where
  | nil
  | cons (s : S) (r : SL)
end
structure Exn where
  cls : Str
  fs : List (Str × D)
inductive R (α : Type) where
  | ok (a : α) (Ω : Sto)
  | ex (x : Exn) (Ω : Sto)
  | bad
def R.bind {α β : Type} (r : R α) (f : α → Sto → R β) : R β := match r with
  | .ok a Ω => f a Ω
  | .ex x Ω => .ex x Ω
  | .bad => .bad
def R.nx {α : Type} : R α → R α
  | .ok a Ω => .ok a Ω
  | _ => .bad
def opt {α : Type} (o : Option α) (Ω : Sto) : R α := match o with
  | some a => .ok a Ω
  | none => .bad
abbrev Env := List (Option D)
def lk (Ω : Sto) : D → D
  | .hd k => match Ω[k]? with
    | some (.lst xs) => .lst xs
    | some (.dk kvs) => .dk kvs
    | some (.dt kvs) => .dt kvs
    | some (.ins c fs) => .ins c fs
    | _ => .hd k
  | d => d
def isNonD : D → Bool
  | .non => true
  | _ => false
def big : Nat := 16777216
def opAdd : D → D → Option D
  | .int i, .int j => some (.int (i + j))
  | .str a, .str b => if a.length + b.length ≤ big then some (.str (a ++ b)) else none
  | .lst a, .lst b => if a.length + b.length ≤ big then some (.lst (a ++ b)) else none
  | .tup a, .tup b => if a.length + b.length ≤ big then some (.tup (a ++ b)) else none
  | _, _ => none
def opMul : D → D → Option D
  | .int i, .int j => if i.natAbs.log2 + j.natAbs.log2 < 1000000 then some (.int (i * j)) else none
  | .lst a, .int k => if -(2 ^ 63) ≤ k ∧ k < 2 ^ 63 ∧ a.length * k.toNat ≤ big then some (.lst (List.replicate k.toNat a).flatten) else none
  | _, _ => none
def op2D : Operator → D → D → Option D
  | .Add, a, b => opAdd a b
  | .Sub, .int i, .int j => some (.int (i - j))
  | .Mult, a, b => opMul a b
  | .FloorDiv, .int i, .int j => if 0 < j ∧ j.natAbs.log2 < 9000 then some (.int (i / j)) else none
  | .Mod, .int i, .int j => if 0 < j then some (.int (i % j)) else none
  | .Pow, .int i, .int j => if 0 ≤ j ∧ j ≤ 1000000 ∧ i.natAbs < 2 ^ 64 then some (.int (i ^ j.toNat)) else none
  | _, _, _ => none
mutual
def toPy : D → Option PyData
  | .non => some .none
  | .bl b => some (.bool b)
  | .int i => some (.int i)
  | .str s => some (.str s)
  | .tup xs => (toPys xs).map .tuple
  | .e0 => some (.tuple [])
  | .lst xs => (toPys xs).map .list
  | _ => none
def toPys : List D → Option (List PyData)
  | [] => some []
  | x :: xs => match toPy x, toPys xs with
    | some d, some ds => some (d :: ds)
    | _, _ => none
end
def eqS (a b : D) : Option Bool := match toPy a, toPy b with
  | some x, some y => if (SeqAt.shaped x = true ∧ SeqAt.shaped y = true) ∧ x.depth ≤ 50 then some (PyData.eqv x y) else none
  | _, _ => none
def getK {κ : Type} [DecidableEq κ] (kvs : List (κ × D)) (k : κ) : Option D := (kvs.find? fun kv => decide (kv.1 = k)).map (·.2)
def eqKs (ys : List (Key × D)) : List (Key × D) → Option Bool
  | [] => some true
  | (k, v) :: r => match getK ys k with
    | none => some false
    | some w => match eqS v w, eqKs ys r with
      | some a, some b => some (a && b)
      | _, _ => none
def eqK : D → D → Option Bool
  | .dk xs, .dk ys => if xs.length = ys.length then eqKs ys xs else some false
  | _, _ => none
def eqD (a b : D) : Option Bool := match toPy a, toPy b with
  | some x, some y => if SeqAt.shaped x = true ∧ SeqAt.shaped y = true then some (PyData.eqv x y) else none
  | _, _ => eqK a b
def flatD : D → Bool
  | .non => true
  | .bl _ => true
  | .int _ => true
  | .str _ => true
  | _ => false
def eqFlat : D → D → Bool
  | .non, .non => true
  | .bl a, .bl b => a == b
  | .bl a, .int b => (if a then 1 else 0) == b
  | .int a, .bl b => a == (if b then 1 else 0)
  | .int a, .int b => a == b
  | .str a, .str b => a == b
  | _, _ => false
def keyD : D → Option Key
  | .int i => some (.inl i)
  | .str s => some (.inr s)
  | _ => none
def keysD : List D → Option (List Key)
  | [] => some []
  | x :: xs => match keyD x, keysD xs with
    | some k, some ks => some (k :: ks)
    | _, _ => none
def tkeyD : D → Option (List Key)
  | .tup xs => if fracB xs then none else keysD xs
  | _ => none
def seqD : D → Option (List D)
  | .lst xs => some xs
  | .tup xs => some xs
  | .e0 => some []
  | .scr ns => some (ns.map .int)
  | _ => none
def putKD {κ : Type} [DecidableEq κ] (kvs : List (κ × D)) (k : κ) (v : D) : List (κ × D) :=
  if kvs.any (fun kv => decide (kv.1 = k)) then kvs.map (fun kv => if kv.1 = k then (kv.1, v) else kv) else kvs ++ [(k, v)]
def inDD (x c : D) : Option Bool := match toPy x, toPy c with
  | some d, some (.list ds) => if d.canLay0 = true ∧ PyData.canLayAll0 ds = true ∧ d.depth ≤ 50 then some (ds.any fun z => PyData.eqv z d) else none
  | some d, some (.tuple ds) => if d.canLay0 = true ∧ PyData.canLayAll0 ds = true ∧ d.depth ≤ 50 then some (ds.any fun z => PyData.eqv z d) else none
  | _, _ => none
def inD (x c : D) : Option Bool := match c with
  | .str t => match x with
    | .str s => some (!(Builtin.Str.occurrences t s 0 t.length 1).isEmpty)
    | _ => none
  | .dk kvs => match keyD x with
    | some k => some (getK kvs k).isSome
    | none => none
  | .dt kvs => match tkeyD x with
    | some k => some (getK kvs k).isSome
    | none => none
  | c => match seqD c with
    | some xs => if flatD x && xs.all flatD then some (xs.any fun y => eqFlat y x) else inDD x c
    | none => none
def cmpD : CmpOp → D → D → Option Bool
  | .Eq, a, b => eqD a b
  | .NotEq, a, b => (eqD a b).map (!·)
  | .In, a, b => inD a b
  | .NotIn, a, b => (inD a b).map (!·)
  | .Lt, .int i, .int j => some (decide (i < j))
  | .LtE, .int i, .int j => some (decide (i ≤ j))
  | .Gt, .int i, .int j => some (decide (j < i))
  | .GtE, .int i, .int j => some (decide (j ≤ i))
  | .Lt, .str i, .str j => some (decide (i.cps.toList < j.cps.toList))
  | _, _, _ => none
def idxD (a b : D) : Option D := match a with
  | .str t => match b with
    | .int i => if t.length ≤ big then (atI t.cps.toList i).map fun c => .str ⟨#[c]⟩ else none
    | _ => none
  | .dk kvs => match keyD b with
    | some k => getK kvs k
    | none => none
  | .dt kvs => match tkeyD b with
    | some k => getK kvs k
    | none => none
  | a => match seqD a, b with
    | some xs, .int i => atI xs i
    | _, _ => none
def cutD {α : Type} (xs : List α) (lo hi : Option Int) : List α := (xs.drop (HT.sIx xs.length 0 lo)).take (HT.sIx xs.length xs.length hi - HT.sIx xs.length 0 lo)
def fldD (flds : Str → List Str) (f : Str) : D → Option D
  | .ins c fs => if (flds c).contains f then fs.lookup f else none
  | _ => none
def tyB : Ty → D → Bool
  | .int, .int _ => true
  | .int, .bl _ => true
  | .bool, .bl _ => true
  | .str, .str _ => true
  | .list, .lst _ => true
  | .list, .scr _ => true
  | .tuple, .tup _ => true
  | .tuple, .e0 => true
  | .dict, .dk _ => true
  | .dict, .dt _ => true
  | .own c, .ins c' _ => decide (c' = c)
  | _, _ => false
def tyOk (cls : List Str) : Ty → Bool
  | .own c => cls.contains c
  | _ => true
def daOk (cls : List Str) : D → Bool
  | .ins c _ => cls.contains c
  | .hd _ => false
  | .exn _ _ => false
  | _ => true
def isTys (cls : List Str) (d : D) (ts : List Ty) : Option Bool := if daOk cls d && ts.all (tyOk cls) then some (ts.any fun t => tyB t d) else none
def boolsD : List D → Option (List Bool)
  | [] => some []
  | .bl b :: xs => (boolsD xs).map (b :: ·)
  | _ :: _ => none
def strsD : List D → Option (List Str)
  | [] => some []
  | .str b :: xs => (strsD xs).map (b :: ·)
  | _ :: _ => none
def intsD : List D → Option (List Int)
  | [] => some []
  | .int b :: xs => (intsD xs).map (b :: ·)
  | _ :: _ => none
def tupsD : List D → Option (List (List Str))
  | [] => some []
  | .tup b :: xs => match strsD b, tupsD xs with
    | some s, some r => some (s :: r)
    | _, _ => none
  | _ :: _ => none
def leS (a b : Str) : Bool := decide (¬ b.cps.toList < a.cps.toList)
def leSs : List Str → List Str → Bool
  | [], _ => true
  | _ :: _, [] => false
  | a :: as, b :: bs => if a = b then leSs as bs else leS a b
def pairsD : List D → Option (List (Key × D))
  | [] => some []
  | .tup [k, v] :: xs => match keyD k, pairsD xs with
    | some k, some r => some ((k, v) :: r)
    | _, _ => none
  | _ :: _ => none
def tpairsD : List D → Option (List (List Key × D))
  | [] => some []
  | .tup [k, v] :: xs => match tkeyD k, tpairsD xs with
    | some k, some r => some ((k, v) :: r)
    | _, _ => none
  | _ :: _ => none
def mergeD {κ : Type} [DecidableEq κ] (kvs more : List (κ × D)) : List (κ × D) := more.foldl (fun acc kv => putKD acc kv.1 kv.2) kvs
def kD : Key → D
  | .inl i => .int i
  | .inr s => .str s
def lenD : D → Option D
  | .str s => if s.length ≤ big then some (.int s.length) else none
  | .dk kvs => some (.int kvs.length)
  | .dt kvs => some (.int kvs.length)
  | d => (seqD d).map fun xs => .int xs.length
def listD : D → Option D
  | .dk kvs => some (.lst (kvs.map fun kv => kD kv.1))
  | .dt kvs => if kvs.all (fun kv => decide (kv.1.length ≤ big)) then some (.lst (kvs.map fun kv => .tup (kv.1.map kD))) else none
  | d => (seqD d).map .lst
def minI : List Int → Option Int
  | [] => none
  | x :: xs => some (xs.foldl min x)
def leI (a b : Int) : Bool := decide (a ≤ b)
def tupssD : List D → Option (List (List (List Str)))
  | [] => some []
  | .tup b :: xs => match tupsD b, tupssD xs with
    | some s, some r => some (s :: r)
    | _, _ => none
  | _ :: _ => none
def leSss : List (List Str) → List (List Str) → Bool
  | [], _ => true
  | _ :: _, [] => false
  | a :: as, b :: bs => if a = b then leSss as bs else leSs a b
def dTT (t : List (List Str)) : D := .tup (t.map fun u => .tup (u.map .str))
def sorted2 (xs : List D) : Option D := match intsD xs with
  | some ns => some (.lst ((ns.mergeSort leI).map .int))
  | none => match tupssD xs with
    | some ts => if ts.all (fun t => !t.isEmpty) = true then some (.lst ((ts.mergeSort leSss).map dTT)) else none
    | none => none
def biD : Bi → List D → Option D
  | .len, [d] => lenD d
  | .abs, [.int i] => some (.int (if i < 0 then -i else i))
  | .all, [.lst xs] => (boolsD xs).map fun bs => .bl (bs.all id)
  | .any, [.lst xs] => (boolsD xs).map fun bs => .bl (bs.any id)
  | .int, [.int i] => some (.int i)
  | .int, [.bl b] => some (.int (if b then 1 else 0))
  | .str, [.str s] => some (.str s)
  | .str, [.int i] => if i.natAbs.log2 < 1920 then some (.str (toString i)) else none
  | .list, [d] => listD d
  | .tuple, [.lst xs] => some (.tup xs)
  | .tuple, [.tup xs] => some (.tup xs)
  | .dict, [.dk kvs] => some (.dk kvs)
  | .dict, [.lst xs] => match pairsD xs with
    | some kvs => some (.dk (mergeD [] kvs))
    | none => (tpairsD xs).map fun kvs => .dt (mergeD [] kvs)
  | .sorted, [.lst xs] => match strsD xs with
    | some ss => if ss.length < 64 then some (.lst ((ss.mergeSort leS).map .str)) else none
    | none => match tupsD xs with
      | some ts => if ts.length ≤ 1 ∨ ts.all (fun t => !t.isEmpty) = true then some (.lst ((ts.mergeSort leSs).map fun t => .tup (t.map .str))) else none
      | none => sorted2 xs
  | .sum, [.lst xs] => (intsD xs).map fun ns => .int ns.sum
  | .mn, [.lst xs] => match intsD xs with
    | some ns => (minI ns).map .int
    | none => none
  | _, _ => none
def once {α : Type} [DecidableEq α] : List α → List α
  | [] => []
  | x :: xs => if x ∈ once xs then once xs else x :: once xs
def noList : Operator → Bool
  | .Sub => true
  | .BitAnd => true
  | _ => false
def pairUp : List D → Option (List D)
  | [] => some []
  | k :: v :: r => (pairUp r).map (.tup [k, v] :: ·)
  | _ => none
def dspD (ds : List D) : Option D := match pairUp ds with
  | some ps => match pairsD ps with
    | some kvs => if kvs.length ≤ 15 then some (.dk (mergeD [] kvs)) else none
    | none => none
  | none => none
def lstD : D → Option (List D)
  | .lst xs => some xs
  | .scr ns => some (ns.map .int)
  | _ => none
def tupD : D → Option (List D)
  | .tup xs => some xs
  | .e0 => some []
  | _ => none
def zipD2 (a b : D) : Option (List D) := match lstD a, lstD b with
  | some xs, some ys => some (List.zipWith (fun x y => .tup [x, y]) xs ys)
  | _, _ => match tupD a, tupD b with
    | some xs, some ys => some (List.zipWith (fun x y => .tup [x, y]) xs ys)
    | _, _ => none
def joinD (sep : Str) (ss : List Str) : Str := Txt.join sep ss
def iterD : D → Option (List D)
  | .dk kvs => some (kvs.map fun kv => kD kv.1)
  | .dt kvs => if kvs.all (fun kv => decide (kv.1.length ≤ big)) then some (kvs.map fun kv => .tup (kv.1.map kD)) else none
  | .str s => some (s.cps.toList.map fun c => .str ⟨#[c]⟩)
  | d => seqD d
def setAll : List Nat → List D → Env → Option Env
  | [], [], ρ => some ρ
  | i :: is, d :: ds, ρ => setAll is ds (ρ.set i (some d))
  | _, _, _ => none
def bindT : Tg → D → Env → Option Env
  | .nm i, d, ρ => some (ρ.set i (some d))
  | .tp is, .tup ds, ρ => setAll is ds ρ
  | .tp is, .lst ds, ρ => setAll is ds ρ
  | .tp _, _, _ => none
def wipeD (ρ : Env) : List Nat → Env
  | [] => ρ
  | v :: vs => (wipeD ρ vs).set v none
def methD : Mt → D → List D → Option D
  | .join, .str sep, [d] => match seqD d with
    | some xs => match strsD xs with
      | some ss => if (ss.map fun s => s.length + sep.length).sum ≤ big then some (.str (joinD sep ss)) else none
      | none => none
    | none => none
  | .get1, .dk kvs, [k] => (keyD k).map fun k => (getK kvs k).getD .non
  | .get2, .dk kvs, [k, x] => (keyD k).map fun k => (getK kvs k).getD x
  | .get1, .dt kvs, [k] => (tkeyD k).map fun k => (getK kvs k).getD .non
  | .get2, .dt kvs, [k, x] => (tkeyD k).map fun k => (getK kvs k).getD x
  | _, _, _ => none
def methM (k : Nat) (Ω : Sto) : Mt → List D → R D
  | .append, [d] => match Ω[k]? with
    | some (.lst xs) => if xs.length < big then .ok .non (Ω.set k (.lst (xs ++ [d]))) else .bad
    | _ => .bad
  | .extend, [d] => match Ω[k]?, lk Ω d with
    | some (.lst xs), .lst ys => if xs.length + ys.length ≤ big then .ok .non (Ω.set k (.lst (xs ++ ys))) else .bad
    | _, _ => .bad
  | .pop, [] => match Ω[k]? with
    | some (.lst xs) => match xs[xs.length - 1]? with
      | some y => .ok y (Ω.set k (.lst xs.dropLast))
      | none => .bad
    | _ => .bad
  | .popi, [.int i] => match Ω[k]? with
    | some (.lst xs) => match ixN xs.length i with
      | some j => match xs[j]? with
        | some y => if -(2 ^ 63) ≤ i ∧ i < 2 ^ 63 then .ok y (Ω.set k (.lst (xs.eraseIdx j))) else .bad
        | none => .bad
      | none => .bad
    | _ => .bad
  | .clear, [] => match Ω[k]? with
    | some (.lst xs) => .ok .non (Ω.set k (.lst []))
    | _ => .bad
  | _, _ => .bad
def recvOk : Mt → D → Bool
  | .join, .str _ => true
  | .get1, .dk _ => true
  | .get1, .dt _ => true
  | .get2, .dk _ => true
  | .get2, .dt _ => true
  | .append, .lst _ => true
  | .extend, .lst _ => true
  | .pop, .lst _ => true
  | .popi, .lst _ => true
  | .clear, .lst _ => true
  | _, _ => false
def lookM : Mt → Bool
  | .join => true
  | .get1 => true
  | .get2 => true
  | _ => false
def methX (m : Mt) (x : D) (ds : List D) (Ω : Sto) : R D := if lookM m then opt (methD m (lk Ω x) ds) Ω else match x with
  | .hd k => methM k Ω m ds
  | _ => .bad
structure FT where
  fn : Str → Option (List D → Sto → R D)
  dfl : Str → List D
  con : Str → Option D
  flds : Str → List Str
  cls : List Str
  its : Str → Option Str
  /-- the fields of the exceptions' classes -/
  xf : Str → Option (List Str)
  /-- defs that are handed a lambda -/
  hf : Str → Option (E → List (Option D) → Sto → R D)
  /-- exceptions' classes without an __init__ -/
  x0 : List Str
def lcD (turn : D → Sto → R (Option D)) : List D → List D → Sto → R (List D)
  | [], acc, Ω => .ok acc Ω
  | x :: xs, acc, Ω => (turn x Ω).nx.bind fun o Ω1 => match o with
    | none => lcD turn xs acc Ω1
    | some d => if acc.length < big then lcD turn xs (acc ++ [d]) Ω1 else .bad
def asBool (d : D) (Ω : Sto) : R Bool := match d with
  | .bl b => .ok b Ω
  | _ => .bad
def enD (xs : List D) : List D := xs.zipIdx.map fun p => .tup [.int p.2, p.1]
def rngD (lo hi : Int) : List D := (List.range (hi - lo).toNat).map fun (k : Nat) => .int (lo + (k : Int))
def inR : Int → Bool
  | .ofNat n => decide (n < 4611686018427387904)
  | .negSucc n => decide (n < 4611686018427387904)
mutual
def evE (ft : FT) : E → Env → Sto → R D
  | .var i, ρ, Ω => match ρ[i]? with
    | some (some d) => .ok d Ω
    | _ => .bad
  | .glo x, ρ, Ω => opt (ft.con x) Ω
  | .non, ρ, Ω => .ok .non Ω
  | .bl b, ρ, Ω => .ok (.bl b) Ω
  | .int i, ρ, Ω => .ok (.int i) Ω
  | .str s, ρ, Ω => .ok (.str s) Ω
  | .tup es, ρ, Ω => (evL ft es ρ Ω).bind fun ds Ω => if ds.length ≤ big then .ok (.tup ds) Ω else .bad
  | .lst es, ρ, Ω => (evL ft es ρ Ω).bind fun ds Ω => if ds.length ≤ big then .ok (.lst ds) Ω else .bad
  | .newl es, ρ, Ω => (evL ft es ρ Ω).bind fun ds Ω => if ds.length ≤ big then .ok (.hd Ω.length) (Ω ++ [.lst ds]) else .bad
  | .newk, ρ, Ω => .ok (.hd Ω.length) (Ω ++ [.dk []])
  | .newt, ρ, Ω => .bad
  | .newb a, ρ, Ω => (evE ft a ρ Ω).bind fun x Ω => match listD (lk Ω x) with
    | some (.lst xs) => .ok (.hd Ω.length) (Ω ++ [.lst xs])
    | _ => .bad
  | .newc own tg s c e, ρ, Ω => (evSr ft s ρ Ω).bind fun xs Ω => (lcD (fun d Ω => match bindT tg d (wipeD ρ own) with
      | some ρ2 => (evC ft c ρ2 Ω).bind fun b Ω => if b then (evE ft e ρ2 Ω).bind fun y Ω => .ok (some y) Ω else .ok none Ω
      | none => .bad) xs [] Ω).bind fun ds Ω => .ok (.hd Ω.length) (Ω ++ [.lst ds])
  | .op2 o a b, ρ, Ω => (evE ft a ρ Ω).bind fun x Ω => (evE ft b ρ Ω).bind fun y Ω => opt (op2D o (lk Ω x) (lk Ω y)) Ω
  | .neg a, ρ, Ω => (evE ft a ρ Ω).bind fun x Ω => match x with
    | .int i => .ok (.int (-i)) Ω
    | _ => .bad
  | .not a, ρ, Ω => (evE ft a ρ Ω).bind fun x Ω => (asBool x Ω).bind fun b Ω => .ok (.bl (!b)) Ω
  | .and es, ρ, Ω => evAnd ft es ρ Ω
  | .or es, ρ, Ω => evOr ft es ρ Ω
  | .ite c a b, ρ, Ω => (evE ft c ρ Ω).bind fun x Ω => (asBool x Ω).bind fun t Ω => if t then evE ft a ρ Ω else evE ft b ρ Ω
  | .cmp o a b, ρ, Ω => (evE ft a ρ Ω).bind fun x Ω => (evE ft b ρ Ω).bind fun y Ω => (opt (cmpD o (lk Ω x) (lk Ω y)) Ω).bind fun b Ω => .ok (.bl b) Ω
  | .isn a, ρ, Ω => (evE ft a ρ Ω).bind fun x Ω => .ok (.bl (isNonD x)) Ω
  | .notn a, ρ, Ω => (evE ft a ρ Ω).bind fun x Ω => .ok (.bl (!isNonD x)) Ω
  | .chn o p a b c, ρ, Ω => .bad
  | .idx a b, ρ, Ω => (evE ft a ρ Ω).bind fun x Ω => (evE ft b ρ Ω).bind fun y Ω => opt (idxD (lk Ω x) y) Ω
  | .slc a lo hi, ρ, Ω => .bad
  | .fld a f, ρ, Ω => (evE ft a ρ Ω).bind fun x Ω => opt (fldD ft.flds f (lk Ω x)) Ω
  | .call f es j, ρ, Ω => (evL ft es ρ Ω).bind fun ds Ω => match ft.fn f with
    | some g => g (ds ++ (ft.dfl f).drop j) Ω
    | none => .bad
  | .mk c q es j, ρ, Ω => (evL ft es ρ Ω).bind fun ds Ω => match ft.fn q with
    | some g => (g (.hd Ω.length :: (ds ++ (ft.dfl q).drop j)) (Ω ++ [.ins c []])).bind fun r Ω' => match r, Ω'[Ω.length]? with
      | .non, some (.ins c' fs) => if c' = c then .ok (.ins c fs) (Ω'.set Ω.length .dead) else .bad
      | _, _ => .bad
    | none => .bad
  | .mcall a c m q es j, ρ, Ω => (evE ft a ρ Ω).bind fun x Ω => match lk Ω x with
    | .ins c' fs => if c' = c then (if (fs.lookup m).isSome then .bad else (evL ft es ρ Ω).bind fun ds Ω => match ft.fn q with
      | some g => g (x :: (ds ++ (ft.dfl q).drop j)) Ω
      | none => .bad) else .bad
    | _ => .bad
  | .bi f es, ρ, Ω => (evL ft es ρ Ω).bind fun ds Ω => opt (biD f (ds.map (lk Ω))) Ω
  | .meth a m es, ρ, Ω => (evE ft a ρ Ω).bind fun x Ω => if recvOk m (lk Ω x) then (evL ft es ρ Ω).bind fun ds Ω => methX m x ds Ω else .bad
  | .isi a ts, ρ, Ω => (evE ft a ρ Ω).bind fun x Ω => (opt (isTys ft.cls (lk Ω x) ts) Ω).bind fun b Ω => .ok (.bl b) Ω
  | .sset a, ρ, Ω => .bad
  | .lzip a b, ρ, Ω => .bad
  | .lins a c, ρ, Ω => .bad
  | .lc own tg s c e, ρ, Ω => (evSr ft s ρ Ω).bind fun xs Ω => (lcD (fun d Ω => match bindT tg d (wipeD ρ own) with
      | some ρ2 => (evC ft c ρ2 Ω).bind fun b Ω => if b then (evE ft e ρ2 Ω).bind fun y Ω => .ok (some y) Ω else .ok none Ω
      | none => .bad) xs [] Ω).bind fun ds Ω => .ok (.lst ds) Ω
  | .lc2 own own1 tg s tg1 s1 c e, ρ, Ω => .bad
  | .dc own tg s c k v, ρ, Ω => .bad
  | .frz a, ρ, Ω => (evE ft a ρ Ω).bind fun x Ω => match x with
    | .hd k => match Ω[k]? with
      | some (.lst xs) => .ok (.lst xs) (Ω.set k .dead)
      | some (.dk kvs) => .ok (.dk kvs) (Ω.set k .dead)
      | some (.dt kvs) => .ok (.dt kvs) (Ω.set k .dead)
      | _ => .bad
    | _ => .bad
  | .opI o a c m q b, ρ, Ω => .bad
  | .idxI a c q b, ρ, Ω => .bad
  | .lenI a c, ρ, Ω => .bad
  | .inI neg a b c q, ρ, Ω => .bad
  | .eqI neg a b c q, ρ, Ω => .bad
  | .dupd a k v, ρ, Ω => .bad
  | .dmrg a b, ρ, Ω => .bad
  | .dsp es, ρ, Ω => (evL ft es ρ Ω).nx.bind fun ds Ω => opt (dspD ds) Ω
  | .dspt es, ρ, Ω => .bad
  | .dct own tg s c k v, ρ, Ω => .bad
  | .lvals a, ρ, Ω => .bad
  | .nonv a, ρ, Ω => .bad
  | .lgen f es, ρ, Ω => .bad
  | .lstS es a, ρ, Ω => .bad
  | .mko c q es j, ρ, Ω => .bad
  | .newdc own tg s c k v, ρ, Ω => .bad
  | .callq _ q es j, ρ, Ω => .bad
  | .lcall f es j, ρ, Ω => .bad
  | .newdsp es, ρ, Ω => .bad
  | .emp neg a, ρ, Ω => (evE ft a ρ Ω).bind fun x Ω => match lk Ω x with
    | .lst xs => .ok (.bl (xs.isEmpty != neg)) Ω
    | _ => .bad
  | .popk a k, ρ, Ω => .bad
  | .newd a, ρ, Ω => .bad
  | .lcl own tg a c e, ρ, Ω => .bad
  | .lcd own tg a c e, ρ, Ω => .bad
  | .lend is e, ρ, Ω => .bad
  | .newc2 own own1 tg s tg1 s1 c e, ρ, Ω => .bad
  | .litems a, ρ, Ω => .bad
  | .lamc f e, ρ, Ω => match ft.hf f with
    | some h => h e ρ Ω
    | none => .bad
  | .isb neg a b, ρ, Ω => .bad
  | .exn c es, ρ, Ω => (evL ft es ρ Ω).bind fun ds Ω => match ft.xf c with
    | some fs => if ds.length = fs.length then .ok (.exn c (fs.zip ds)) Ω else .bad
    | none => .bad
  | .exnk c f e, ρ, Ω => (evE ft e ρ Ω).bind fun d Ω => match ft.xf c with
    | some fs => if fs = [f] then .ok (.exn c [(f, d)]) Ω else .bad
    | none => .bad
  | .exn0 c, ρ, Ω => if ft.x0.contains c = true then .ok (.exn c []) Ω else .bad
  | .xfl a f, ρ, Ω => (evE ft a ρ Ω).bind fun x Ω => match x with
    | .exn c fs => match ft.xf c with
      | some gs => if gs.contains f = true then opt (fs.lookup f) Ω else .bad
      | none => .bad
    | _ => .bad
  | .isx a c k, ρ, Ω => (evE ft a ρ Ω).bind fun x Ω => match x with
    | .exn q _ => if ((ft.xf q).isSome || ft.x0.contains q) = true then .ok (.bl (k.is q c)) Ω else .bad
    | .non => if k = .leaf then .ok (.bl false) Ω else .bad
    | _ => .bad
  | .nope, ρ, Ω => .bad
def evL (ft : FT) : EL → Env → Sto → R (List D)
  | .nil, ρ, Ω => .ok [] Ω
  | .cons e r, ρ, Ω => (evE ft e ρ Ω).bind fun d Ω => (evL ft r ρ Ω).bind fun ds Ω => .ok (d :: ds) Ω
def evO (ft : FT) : EO → Env → Sto → R (Option Int)
  | .none, ρ, Ω => .ok none Ω
  | .some e, ρ, Ω => (evE ft e ρ Ω).bind fun d Ω => match d with
    | .int i => .ok (some i) Ω
    | _ => .bad
def evC (ft : FT) : EO → Env → Sto → R Bool
  | .none, ρ, Ω => .ok true Ω
  | .some e, ρ, Ω => (evE ft e ρ Ω).bind fun d Ω => asBool d Ω
def evAnd (ft : FT) : EL → Env → Sto → R D
  | .nil, ρ, Ω => .bad
  | .cons e .nil, ρ, Ω => evE ft e ρ Ω
  | .cons e r, ρ, Ω => (evE ft e ρ Ω).bind fun x Ω => (asBool x Ω).bind fun b Ω => if b then evAnd ft r ρ Ω else .ok (.bl false) Ω
def evOr (ft : FT) : EL → Env → Sto → R D
  | .nil, ρ, Ω => .bad
  | .cons e .nil, ρ, Ω => evE ft e ρ Ω
  | .cons e r, ρ, Ω => (evE ft e ρ Ω).bind fun x Ω => (asBool x Ω).bind fun b Ω => if b then .ok (.bl true) Ω else evOr ft r ρ Ω
def evSr (ft : FT) : Sr → Env → Sto → R (List D)
  | .val e, ρ, Ω => (evE ft e ρ Ω).bind fun d Ω => opt (iterD d) Ω
  | .items e, ρ, Ω => .bad
  | .itemsT e, ρ, Ω => .bad
  | .vals e, ρ, Ω => .bad
  | .enum e, ρ, Ω => (evE ft e ρ Ω).bind fun d Ω => opt ((seqD d).map enD) Ω
  | .zip a b, ρ, Ω => (evE ft a ρ Ω).bind fun x Ω => (evE ft b ρ Ω).bind fun y Ω => opt (zipD2 x y) Ω
  | .inst e c, ρ, Ω => .bad
  | .rng a, ρ, Ω => (evE ft a ρ Ω).bind fun d Ω => match d with
    | .int j => if inR j then .ok (rngD 0 j) Ω else .bad
    | _ => .bad
  | .rng2 a b, ρ, Ω => .bad
end
inductive Fl where
  | nx (ρ : Env)
  | rt (d : D)
  | bk (ρ : Env)
  | ct (ρ : Env)
inductive RS where
  | ok (f : Fl) (Ω : Sto)
  | ex (x : Exn) (ρ : Env) (Ω : Sto)
  | bad
def R.st {α : Type} (r : R α) (ρ : Env) (f : α → Sto → RS) : RS := match r with
  | .ok a Ω => f a Ω
  | .ex x Ω => .ex x ρ Ω
  | .bad => .bad
def forD (turn : D → Env → Sto → RS) : List D → Env → Sto → RS
  | [], ρ, Ω => .ok (.nx ρ) Ω
  | x :: xs, ρ, Ω => match turn x ρ Ω with
    | .ok (.nx ρ') Ω' => forD turn xs ρ' Ω'
    | .ok (.ct ρ') Ω' => forD turn xs ρ' Ω'
    | .ok (.bk ρ') Ω' => .ok (.nx ρ') Ω'
    | r => r
def fuel : Nat := 1000000
def evT (ft : FT) (e : E) (ρ : Env) (Ω : Sto) : R Bool := (evE ft e ρ Ω).bind asBool
def HV.of (ft : FT) (x : Exn) (ρ : Env) (Ω : Sto) : HV → Option D
  | .tag s f => (x.fs.lookup f).map fun d => .tup [.str s, d]
  | .fld f => x.fs.lookup f
  | .con e => match evE ft e ρ Ω with
    | .ok d Ω' => some d
    | _ => none
def HA.run (ft : FT) (x : Exn) (ρ : Env) (Ω : Sto) : HA → RS
  | .set i v => match v.of ft x ρ Ω with
    | some d => .ok (.nx (ρ.set i (some d))) Ω
    | none => .bad
  | .ret v => match v.of ft x ρ Ω with
    | some d => .ok (.rt d) Ω
    | none => .bad
def unAs (ρ : Env) : Option Nat → Env
  | some i => ρ.set i none
  | none => ρ
def handle (ft : FT) (x : Exn) (ρ : Env) (Ω : Sto) : List Hd → RS
  | [] => .ex x ρ Ω
  | h :: r => if (ft.xf x.cls).isSome = true ∧ (ft.xf h.c).isSome = true then (if x.cls = h.c then h.act.run ft x (unAs ρ h.as) Ω else handle ft x ρ Ω r) else .bad
mutual
def exS (ft : FT) : S → Env → Sto → RS
  | .fz i s, ρ, Ω => match ρ[i]? with
    | some (some (.hd k)) => match Ω[k]? with
      | some (.lst xs) => exS ft s (ρ.set i (some (.lst xs))) (Ω.set k .dead)
      | some (.dk kvs) => exS ft s (ρ.set i (some (.dk kvs))) (Ω.set k .dead)
      | some (.dt kvs) => exS ft s (ρ.set i (some (.dt kvs))) (Ω.set k .dead)
      | _ => .bad
    | _ => .bad
  | .asg tg e, ρ, Ω => (evE ft e ρ Ω).st ρ fun d Ω => match bindT tg d ρ with
    | some ρ' => .ok (.nx ρ') Ω
    | none => .bad
  | .par is es, ρ, Ω => (evL ft es ρ Ω).st ρ fun ds Ω => match setAll is ds ρ with
    | some ρ' => .ok (.nx ρ') Ω
    | none => .bad
  | .fset a f e, ρ, Ω => .bad
  | .iset a b e, ρ, Ω => (evE ft e ρ Ω).st ρ fun d Ω => (evE ft a ρ Ω).st ρ fun x Ω => (evE ft b ρ Ω).st ρ fun y Ω => match x with
    | .hd k => match Ω[k]? with
      | some (.lst xs) => match y with
        | .int i => match ixN xs.length i with
          | some j => .ok (.nx ρ) (Ω.set k (.lst (xs.set j d)))
          | none => .bad
        | _ => .bad
      | some (.dk kvs) => match keyD y with
        | some q => if kvs.length < big then .ok (.nx ρ) (Ω.set k (.dk (putKD kvs q d))) else .bad
        | none => .bad
      | some (.dt kvs) => match tkeyD y with
        | some q => if kvs.length < big then .ok (.nx ρ) (Ω.set k (.dt (putKD kvs q d))) else .bad
        | none => .bad
      | _ => .bad
    | _ => .bad
  | .iset2 a k b l e, ρ, Ω => .bad
  | .expr e, ρ, Ω => (evE ft e ρ Ω).st ρ fun _ Ω => .ok (.nx ρ) Ω
  | .ret e, ρ, Ω => (evE ft e ρ Ω).st ρ fun d Ω => .ok (.rt d) Ω
  | .retN, ρ, Ω => .ok (.rt .non) Ω
  | .ife c t f, ρ, Ω => (evT ft c ρ Ω).st ρ fun b Ω => if b then exL ft t ρ Ω else exL ft f ρ Ω
  | .for tg s b, ρ, Ω => (evSr ft s ρ Ω).st ρ fun xs Ω => forD (fun d ρ Ω => match bindT tg d ρ with
    | some ρ' => exL ft b ρ' Ω
    | none => .bad) xs ρ Ω
  | .forl tg e b, ρ, Ω => .bad
  | .whl c b, ρ, Ω => .bad
  | .raise c es, ρ, Ω => .bad
  | .tr b hs, ρ, Ω => match exL ft b ρ Ω with
    | .ex x ρ' Ω' => handle ft x ρ' Ω' hs
    | r => r
  | .brk, ρ, Ω => .ok (.bk ρ) Ω
  | .cnt, ρ, Ω => .ok (.ct ρ) Ω
  | .pass, ρ, Ω => .ok (.nx ρ) Ω
  | .nope, ρ, Ω => .bad
def exL (ft : FT) : SL → Env → Sto → RS
  | .nil, ρ, Ω => .ok (.nx ρ) Ω
  | .cons s r, ρ, Ω => match exS ft s ρ Ω with
    | .ok (.nx ρ') Ω' => exL ft r ρ' Ω'
    | q => q
end
def runD (ft : FT) (np n : Nat) (b : SL) (ds : List D) (Ω : Sto) : R D := if ds.length = np then (match exL ft b (ds.map some ++ List.replicate (n - ds.length) none) Ω with
  | .ok (.nx _) Ω' => .ok .non Ω'
  | .ok (.rt d) Ω' => .ok d Ω'
  | .ex x _ Ω' => .ex x Ω'
  | _ => .bad) else .bad
inductive GL where
  | nil
  | pl (s : S) (r : GL)
  | yd (e : E) (r : GL)
  | wh (c : E) (b r : GL)
def whG (test : Env → Sto → R Bool) (body : Env → Sto → List D → R (Env × List D)) : Nat → Env → Sto → List D → R (Env × List D)
  | 0, _, _, _ => .bad
  | n + 1, ρ, Ω, ys => (test ρ Ω).bind fun b Ω => if b then (body ρ Ω ys).bind fun p Ω => whG test body n p.1 Ω p.2 else .ok (ρ, ys) Ω
def exG (ft : FT) : GL → Env → Sto → List D → R (Env × List D)
  | .nil, ρ, Ω, ys => .ok (ρ, ys) Ω
  | .pl s r, ρ, Ω, ys => match exS ft s ρ Ω with
    | .ok (.nx ρ') Ω' => exG ft r ρ' Ω' ys
    | _ => .bad
  | .yd e r, ρ, Ω, ys => (evE ft e ρ Ω).bind fun d Ω => if ys.length < big then exG ft r ρ Ω (ys ++ [d]) else .bad
  | .wh c b r, ρ, Ω, ys => (whG (fun ρ Ω => evT ft c ρ Ω) (fun ρ Ω ys => exG ft b ρ Ω ys) fuel ρ Ω ys).bind fun p Ω => exG ft r p.1 Ω p.2
def runG (ft : FT) (np n : Nat) (b : GL) (ds : List D) (Ω : Sto) : R D := if ds.length = np then (match exG ft b (ds.map some ++ List.replicate (n - ds.length) none) Ω [] with
  | .ok p Ω' => if p.2.length ≤ big then .ok (.lst p.2) Ω' else .bad
  | _ => .bad) else .bad
inductive Fm where
  | expr
  | ret (s : Str)
  | set (j : Nat) (s : Str)
structure KeepE where
  y : Nat
  e : Nat
  f : Str
  cs : List Str
  k1 : Str
  k2 : Str
  k3 : Str
  s1 : Str
  s2 : Str
  s3 : Str
  s4 : Str
def kTag (q c1 c2 c3 s1 s2 s3 s4 : Str) : Str := if q = c1 then s1 else if q = c2 then s2 else if q = c3 then s3 else s4
structure HD where
  pre : Option Nat
  fm : Fm
  hs : List Hd
  post : SL
  kp : Option KeepE
def finR : RS → R D
  | .ok (.nx _) Ω' => .ok .non Ω'
  | .ok (.rt d) Ω' => .ok d Ω'
  | _ => .bad
def preE (n : Nat) : Option Nat → Env
  | none => List.replicate n none
  | some i => (List.replicate n none).set i (some .non)
def keptH (ft : FT) (kp : Option KeepE) (x : Exn) (Ω : Sto) (r : R D) : R D := match kp with
  | none => r
  | some k => if (ft.xf x.cls).isSome = true ∧ (k.cs.all fun c => (ft.xf c).isSome) = true then (if k.cs.contains x.cls = true then (match x.fs.lookup k.f with
    | some d => .ok (.tup [.str (kTag x.cls k.k1 k.k2 k.k3 k.s1 k.s2 k.s3 k.s4), d]) Ω
    | none => .bad) else r) else .bad
def runH (ft : FT) (n : Nat) (h : HD) (a : R D) (Ω : Sto) : R D := match a with
  | .ok d Ω1 => (match h.fm with
    | .expr => finR (exL ft h.post (preE n h.pre) Ω1)
    | .ret s => .ok (.tup [.str s, d]) Ω1
    | .set j s => finR (exL ft h.post ((preE n h.pre).set j (some (.tup [.str s, d]))) Ω1))
  | .ex x Ω1 => keptH ft h.kp x Ω1 (match handle ft x (List.replicate n none) Ω1 h.hs with
    | .ok (.nx ρ) Ω2 => finR (exL ft h.post ρ Ω2)
    | .ok (.rt d) Ω2 => .ok d Ω2
    | _ => .bad)
  | .bad => .bad
end Rf
end
section
namespace Rf.C
open PySem L2
def s__law_spring : SL := (.cons (.asg (.nm 1) (.lc [2] (.nm 2) (.val (.var 0)) (.some (.cmp .Lt (.var 2) (.op2 .Pow (.int 10) (.int 18)))) (.bi .int (.cons (.var 2) .nil)))) (.cons (.ret (.newl (.cons (.newc [2] (.nm 2) (.val (.var 0)) (.some (.cmp .GtE (.var 2) (.op2 .Pow (.int 10) (.int 18)))) (.bi .int (.cons (.var 2) .nil))) (.cons (.int 0) (.cons (.var 1) (.cons (.int 0) .nil)))))) .nil))
def s__law_take : SL := (.cons (.iset (.var 0) (.int 3) (.op2 .Add (.idx (.var 0) (.int 3)) (.int 1))) (.cons (.ife (.and (.cons (.cmp .Eq (.idx (.var 0) (.int 1)) (.int 0)) (.cons (.cmp .NotEq (.idx (.var 0) (.int 0)) (.lst .nil)) .nil))) (.cons (.iset (.var 0) (.int 1) (.meth (.idx (.var 0) (.int 0)) .popi (.cons (.int 0) .nil))) .nil) .nil) (.cons (.ife (.cmp .Gt (.idx (.var 0) (.int 1)) (.int 0)) (.cons (.asg (.nm 5) (.op2 .Mod (.bi .int (.cons (.idx (.var 0) (.int 1)) .nil)) (.var 1))) (.cons (.iset (.var 0) (.int 1) (.op2 .FloorDiv (.idx (.var 0) (.int 1)) (.var 1))) (.cons (.ret (.var 5)) .nil))) .nil) (.cons (.asg (.nm 2) (.ite (.cmp .Eq (.idx (.var 0) (.int 2)) (.lst .nil)) (.op2 .Mult (.int 13) (.idx (.var 0) (.int 3))) (.idx (.idx (.var 0) (.int 2)) (.op2 .Mod (.bi .int (.cons (.idx (.var 0) (.int 3)) .nil)) (.bi .len (.cons (.idx (.var 0) (.int 2)) .nil)))))) (.cons (.asg (.nm 3) (.op2 .Mod (.op2 .Pow (.bi .int (.cons (.op2 .Add (.op2 .Add (.op2 .Mod (.bi .int (.cons (.var 2) .nil)) (.int 1000003)) (.op2 .Mult (.int 7907) (.idx (.var 0) (.int 3)))) (.int 11)) .nil)) (.int 5)) (.int 2147483629))) (.cons (.asg (.nm 4) (.op2 .Mod (.bi .int (.cons (.op2 .Add (.op2 .Mult (.var 3) (.int 48271)) (.op2 .Mult (.int 6007) (.idx (.var 0) (.int 3)))) .nil)) (.int 2147483587))) (.cons (.ret (.op2 .Mod (.op2 .FloorDiv (.op2 .Mod (.bi .int (.cons (.op2 .Add (.op2 .Mult (.var 4) (.int 69621)) (.int 17)) .nil)) (.int 1000000007)) (.int 5)) (.var 1))) .nil)))))))
def s__law_one : SL := (.cons (.ret (.idx (.var 1) (.call "_law_take" (.cons (.var 0) (.cons (.bi .len (.cons (.var 1) .nil)) .nil)) 0))) .nil)
def s__law_same : SL := (.cons (.ife (.isi (.var 1) [.dict]) (.cons (.ife (.or (.cons (.not (.isi (.var 0) [.dict])) (.cons (.cmp .NotEq (.bi .len (.cons (.var 0) .nil)) (.bi .len (.cons (.var 1) .nil))) .nil))) (.cons (.ret (.bl false)) .nil) .nil) (.cons (.ret (.bi .all (.cons (.lc [3] (.nm 3) (.val (.var 1)) .none (.and (.cons (.cmp .In (.var 3) (.var 0)) (.cons (.call "_law_same" (.cons (.idx (.var 0) (.var 3)) (.cons (.idx (.var 1) (.var 3)) .nil)) 0) .nil)))) .nil))) .nil)) .nil) (.cons (.ife (.isi (.var 1) [.list, .tuple]) (.cons (.ife (.cmp .NotEq (.isi (.var 0) [.list]) (.isi (.var 1) [.list])) (.cons (.ret (.bl false)) .nil) .nil) (.cons (.ife (.cmp .NotEq (.isi (.var 0) [.tuple]) (.isi (.var 1) [.tuple])) (.cons (.ret (.bl false)) .nil) .nil) (.cons (.ret (.and (.cons (.cmp .Eq (.bi .len (.cons (.var 0) .nil)) (.bi .len (.cons (.var 1) .nil))) (.cons (.bi .all (.cons (.lc [4, 5] (.tp [4, 5]) (.zip (.var 0) (.var 1)) .none (.call "_law_same" (.cons (.var 4) (.cons (.var 5) .nil)) 0)) .nil)) .nil)))) .nil))) .nil) (.cons (.ife (.isi (.var 1) [.int]) (.cons (.asg (.nm 2) (.cmp .Eq (.isi (.var 0) [.bool]) (.isi (.var 1) [.bool]))) (.cons (.ret (.and (.cons (.isi (.var 0) [.int]) (.cons (.var 2) (.cons (.cmp .Eq (.var 0) (.var 1)) .nil))))) .nil)) .nil) (.cons (.ret (.and (.cons (.not (.isi (.var 0) [.int, .list, .tuple, .dict])) (.cons (.cmp .Eq (.var 0) (.var 1)) .nil)))) .nil))))
end Rf.C
end
section
namespace Rf.C
open PySem L2
def s__law_made_of : SL := (.cons (.asg (.nm 2) (.newl (.cons (.tup (.cons (.exn "BadFault" (.cons (.var 0) .nil)) (.cons (.xfl (.exn "BadFault" (.cons (.var 0) .nil)) "name") (.cons (.xfl (.exnk "BadFault" "name" (.var 1)) "name") .nil)))) .nil))) (.cons (.expr (.meth (.var 2) .append (.cons (.tup (.cons (.exn "BadLink" (.cons (.var 0) .nil)) (.cons (.xfl (.exn "BadLink" (.cons (.var 0) .nil)) "index") (.cons (.xfl (.exnk "BadLink" "index" (.var 1)) "index") .nil)))) .nil))) (.cons (.expr (.meth (.var 2) .append (.cons (.tup (.cons (.exn "NoFault" (.cons (.var 0) .nil)) (.cons (.xfl (.exn "NoFault" (.cons (.var 0) .nil)) "name") (.cons (.xfl (.exnk "NoFault" "name" (.var 1)) "name") .nil)))) .nil))) (.cons (.expr (.meth (.var 2) .append (.cons (.tup (.cons (.exn "BadShare" (.cons (.var 0) .nil)) (.cons (.xfl (.exn "BadShare" (.cons (.var 0) .nil)) "share") (.cons (.xfl (.exnk "BadShare" "share" (.var 1)) "share") .nil)))) .nil))) (.cons (.expr (.meth (.var 2) .append (.cons (.tup (.cons (.exn "SameFault" (.cons (.var 0) .nil)) (.cons (.xfl (.exn "SameFault" (.cons (.var 0) .nil)) "name") (.cons (.xfl (.exnk "SameFault" "name" (.var 1)) "name") .nil)))) .nil))) (.cons (.expr (.meth (.var 2) .append (.cons (.tup (.cons (.exn "BadNumber" (.cons (.var 0) .nil)) (.cons (.xfl (.exn "BadNumber" (.cons (.var 0) .nil)) "number") (.cons (.xfl (.exnk "BadNumber" "number" (.var 1)) "number") .nil)))) .nil))) (.cons (.expr (.meth (.var 2) .append (.cons (.tup (.cons (.exn "Clash" (.cons (.var 0) .nil)) (.cons (.xfl (.exn "Clash" (.cons (.var 0) .nil)) "name") (.cons (.xfl (.exnk "Clash" "name" (.var 1)) "name") .nil)))) .nil))) (.cons (.expr (.meth (.var 2) .append (.cons (.tup (.cons (.exn "BadName" (.cons (.var 0) .nil)) (.cons (.xfl (.exn "BadName" (.cons (.var 0) .nil)) "name") (.cons (.xfl (.exnk "BadName" "name" (.var 1)) "name") .nil)))) .nil))) (.cons (.expr (.meth (.var 2) .append (.cons (.tup (.cons (.exn "BadOutcome" (.cons (.var 0) .nil)) (.cons (.xfl (.exn "BadOutcome" (.cons (.var 0) .nil)) "outcome") (.cons (.xfl (.exnk "BadOutcome" "outcome" (.var 1)) "outcome") .nil)))) .nil))) (.cons (.expr (.meth (.var 2) .append (.cons (.tup (.cons (.exn "Unsafe" (.cons (.var 0) .nil)) (.cons (.xfl (.exn "Unsafe" (.cons (.var 0) .nil)) "some") (.cons (.xfl (.exnk "Unsafe" "some" (.var 1)) "some") .nil)))) .nil))) (.cons (.expr (.meth (.var 2) .append (.cons (.tup (.cons (.exn "BadCount" (.cons (.var 0) .nil)) (.cons (.xfl (.exn "BadCount" (.cons (.var 0) .nil)) "count") (.cons (.xfl (.exnk "BadCount" "count" (.var 1)) "count") .nil)))) .nil))) (.cons (.expr (.meth (.var 2) .append (.cons (.tup (.cons (.exn "BadPlace" (.cons (.var 0) .nil)) (.cons (.xfl (.exn "BadPlace" (.cons (.var 0) .nil)) "place") (.cons (.xfl (.exnk "BadPlace" "place" (.var 1)) "place") .nil)))) .nil))) (.cons (.expr (.meth (.var 2) .append (.cons (.tup (.cons (.exn "BadCoin" (.cons (.var 0) .nil)) (.cons (.xfl (.exn "BadCoin" (.cons (.var 0) .nil)) "name") (.cons (.xfl (.exnk "BadCoin" "name" (.var 1)) "name") .nil)))) .nil))) (.cons (.expr (.meth (.var 2) .append (.cons (.tup (.cons (.exn "NoWatch" (.cons (.var 0) .nil)) (.cons (.xfl (.exn "NoWatch" (.cons (.var 0) .nil)) "word") (.cons (.xfl (.exnk "NoWatch" "word" (.var 1)) "word") .nil)))) .nil))) (.cons (.expr (.meth (.var 2) .append (.cons (.tup (.cons (.exn "BadText" (.cons (.var 0) .nil)) (.cons (.xfl (.exn "BadText" (.cons (.var 0) .nil)) "line") (.cons (.xfl (.exnk "BadText" "line" (.var 1)) "line") .nil)))) .nil))) (.cons (.ret (.frz (.var 2))) .nil))))))))))))))))
def s__law_bare : SL := (.cons (.asg (.nm 0) (.lst (.cons (.exn "BadSum" .nil) (.cons (.exn "Never" .nil) (.cons (.exn "UnlikeFaults" .nil) (.cons (.exn "NoPaper" .nil) (.cons (.exn "BadSetting" .nil) .nil))))))) (.cons (.ret (.op2 .Add (.var 0) (.lst (.cons (.exn "BadOrder" .nil) (.cons (.exn "NoEnd" .nil) (.cons (.exn "NoDeed" .nil) .nil)))))) .nil))
def s__law_classes : SL := (.cons (.asg (.nm 1) (.newl (.cons (.isx (.var 0) "BadFault" .leaf) (.cons (.isx (.var 0) "BadLink" .leaf) (.cons (.isx (.var 0) "NoFault" .leaf) .nil))))) (.cons (.expr (.meth (.var 1) .extend (.cons (.lst (.cons (.isx (.var 0) "BadShare" .leaf) (.cons (.isx (.var 0) "SameFault" .leaf) (.cons (.isx (.var 0) "BadNumber" .leaf) .nil)))) .nil))) (.cons (.expr (.meth (.var 1) .extend (.cons (.lst (.cons (.isx (.var 0) "Clash" .leaf) (.cons (.isx (.var 0) "BadName" .leaf) (.cons (.isx (.var 0) "BadOutcome" .leaf) .nil)))) .nil))) (.cons (.expr (.meth (.var 1) .extend (.cons (.lst (.cons (.isx (.var 0) "Unsafe" .leaf) (.cons (.isx (.var 0) "BadCount" .leaf) (.cons (.isx (.var 0) "BadPlace" .leaf) .nil)))) .nil))) (.cons (.expr (.meth (.var 1) .extend (.cons (.lst (.cons (.isx (.var 0) "BadCoin" .leaf) (.cons (.isx (.var 0) "NoWatch" .leaf) (.cons (.isx (.var 0) "BadText" .leaf) .nil)))) .nil))) (.cons (.expr (.meth (.var 1) .extend (.cons (.lst (.cons (.isx (.var 0) "BadSum" .leaf) (.cons (.isx (.var 0) "Never" .leaf) (.cons (.isx (.var 0) "UnlikeFaults" .leaf) .nil)))) .nil))) (.cons (.expr (.meth (.var 1) .extend (.cons (.lst (.cons (.isx (.var 0) "NoPaper" .leaf) (.cons (.isx (.var 0) "BadSetting" .leaf) (.cons (.isx (.var 0) "BadOrder" .leaf) .nil)))) .nil))) (.cons (.expr (.meth (.var 1) .extend (.cons (.lst (.cons (.isx (.var 0) "NoEnd" .leaf) (.cons (.isx (.var 0) "NoDeed" .leaf) .nil))) .nil))) (.cons (.ret (.frz (.var 1))) .nil)))))))))
end Rf.C
end
section
namespace Rf
open PySem L2
def REnv (K : Frg) (G : Hp) (μ : Mu) (n : Nat) (ρ : Env) (σ : St) : Prop := ρ.length = σ.length ∧ ∀ (i : Nat) (d : D), ρ[i]? = some (some d) → ∃ v, σ[i]? = some (some v) ∧ Rep K G μ n d v
def XRep (K : Frg) (H : Hp) (μ : Mu) (Ω : Sto) (x : Exn) (d : Option Addr) : Prop :=
  (x.fs = [] ∧ d = none) ∨ ∃ dx ws, d = some dx ∧ H dx = some (.xd ws) ∧ RepS K (Fz H μ Ω) μ Ω.length x.fs ws
abbrev Rl (α β : Type) := Hp → Mu → Sto → α → β → Prop
def Post {α β : Type} (K : Frg) (rel : Rl α β) (W : WX) (σ : St) (H : Hp) (μ : Mu) (Ω : Sto) (r : R α) (Q : β → Hp → Prop) : Prop := match r with
  | .ok a Ω' => ∀ b H' μ', Ext K H μ Ω H' μ' Ω' → rel H' μ' Ω' a b → Q b H'
  | .ex x Ω' => ∀ d H' μ', Ext K H μ Ω H' μ' Ω' → XRep K H' μ' Ω' x d → W (.ref (He.ga K x.cls)) d σ H'
  | .bad => False
def rD (K : Frg) : Rl D V := fun H μ Ω d v => Rep K (Fz H μ Ω) μ Ω.length d v
def rL (K : Frg) : Rl (List D) (List V) := fun H μ Ω d v => Reps K (Fz H μ Ω) μ Ω.length d v
def rQ {α : Type} : Rl α α := fun _ _ _ a b => a = b
structure At (K : Frg) (σ : St) (H : Hp) (μ : Mu) (Ω : Sto) (ρ : Env) : Prop where
  wf : Wf K H μ Ω
  env : REnv K (Fz H μ Ω) μ Ω.length ρ σ
section
variable {K : Frg} {W : WX} {σ : St} {H H' : Hp} {μ μ' : Mu} {Ω Ω' : Sto} {ρ : Env} {α β γ δ : Type}
end
def TEv (K : Frg) (W : WX) (ft : FT) (e : E) : TE := fun σ H Q => ∃ μ Ω ρ, At K σ H μ Ω ρ ∧ Post K (rD K) W σ H μ Ω (evE ft e ρ Ω) Q
def TTv (K : Frg) (W : WX) (ft : FT) (e : E) : TT := fun σ H Q => ∃ μ Ω ρ, At K σ H μ Ω ρ ∧ Post K rQ W σ H μ Ω (evT ft e ρ Ω) Q
def TAv (K : Frg) (W : WX) (ft : FT) (es : EL) : TA := fun σ H Q => ∃ μ Ω ρ, At K σ H μ Ω ρ ∧ Post K (rL K) W σ H μ Ω (evL ft es ρ Ω) Q
def TOv (K : Frg) (W : WX) (ft : FT) (e : EO) : L2.TO := fun σ H Q => ∃ μ Ω ρ, At K σ H μ Ω ρ ∧ Post K rQ W σ H μ Ω (evO ft e ρ Ω) Q
def TCv (K : Frg) (W : WX) (ft : FT) (e : EO) : TT := fun σ H Q => ∃ μ Ω ρ, At K σ H μ Ω ρ ∧ Post K rQ W σ H μ Ω (evC ft e ρ Ω) Q
structure ItRep (K : Frg) (J : It) (H : Hp) (μ : Mu) (Ω : Sto) (xs : List D) : Prop where
  stop : ∀ i H' μ' Ω', Lat K H μ Ω H' μ' Ω' → xs.length ≤ i → J.stop i H'
  go : ∀ i H' μ' Ω', Lat K H μ Ω H' μ' Ω' → i < xs.length → J.go i H'
  yld : ∀ i H' μ' Ω' v H'' d, Lat K H μ Ω H' μ' Ω' → xs[i]? = some d → J.yld i H' v H'' → (∀ a o, H' a = some o → H'' a = some o) ∧ Ext K H' μ' Ω' H'' μ' Ω' ∧ Rep K (Fz H'' μ' Ω') μ' Ω'.length d v
def rI (K : Frg) : Rl (List D) It := fun H μ Ω xs J => ItRep K J H μ Ω xs
def TIv (K : Frg) (W : WX) (ft : FT) (s : Sr) : TI := fun σ H R => ∃ μ Ω ρ, At K σ H μ Ω ρ ∧ Post K (rI K) W σ H μ Ω (evSr ft s ρ Ω) R
def PostS (K : Frg) (W : WX) (H : Hp) (μ : Mu) (Ω : Sto) (r : RS) (D : Ends) : Prop := match r with
  | .ok (.nx ρ) Ω' => ∀ σ' H' μ', Ext K H μ Ω H' μ' Ω' → REnv K (Fz H' μ' Ω') μ' Ω'.length ρ σ' → D.nx σ' H'
  | .ok (.bk ρ) Ω' => ∀ σ' H' μ', Ext K H μ Ω H' μ' Ω' → REnv K (Fz H' μ' Ω') μ' Ω'.length ρ σ' → D.bk σ' H'
  | .ok (.ct ρ) Ω' => ∀ σ' H' μ', Ext K H μ Ω H' μ' Ω' → REnv K (Fz H' μ' Ω') μ' Ω'.length ρ σ' → D.ct σ' H'
  | .ok (.rt d) Ω' => ∀ v H' μ', Ext K H μ Ω H' μ' Ω' → Rep K (Fz H' μ' Ω') μ' Ω'.length d v → D.rt v H'
  | .ex x ρ Ω' => ∀ σ' d H' μ', Ext K H μ Ω H' μ' Ω' → REnv K (Fz H' μ' Ω') μ' Ω'.length ρ σ' → XRep K H' μ' Ω' x d → W (.ref (He.ga K x.cls)) d σ' H'
  | .bad => False
def TSv (K : Frg) (W : WX) (ft : FT) (s : S) : TS := fun D σ H => ∃ μ Ω ρ, At K σ H μ Ω ρ ∧ PostS K W H μ Ω (exS ft s ρ Ω) D
def TLv (K : Frg) (W : WX) (ft : FT) (s : SL) : TS := fun D σ H => ∃ μ Ω ρ, At K σ H μ Ω ρ ∧ PostS K W H μ Ω (exL ft s ρ Ω) D
section
variable {K : Frg} {W : WX} {σ : St} {H H' : Hp} {μ μ' : Mu} {Ω Ω' : Sto} {ρ : Env} {α β γ δ : Type}
end
section
variable {X : Cx} {e : Expr} {st : Stmt} {sts : List Stmt}
end
end Rf
end
section
namespace Rf
open PySem L2
def View (K : Frg) (H : Hp) (μ : Mu) (Ω : Sto) : D → V → Prop
  | .lst xs, v => ∃ p vs, v = .ref p ∧ Reps K (Fz H μ Ω) μ Ω.length xs vs ∧ vs.length ≤ sizeLine ∧ H p = some (.lst vs)
  | .dk kvs, v => ∃ p ws, v = .ref p ∧ RepK K (Fz H μ Ω) μ Ω.length kvs ws ∧ Rd H p (.dK ws)
  | .dt kvs, v => ∃ p ws, v = .ref p ∧ RepT K (Fz H μ Ω) μ Ω.length kvs ws ∧ Rd H p (.dT ws)
  | .ins c fs, v => ∃ p dx ws, v = .ref p ∧ RepS K (Fz H μ Ω) μ Ω.length fs ws ∧ H p = some (.ins (He.ga K c) dx ws)
  | .tup xs, v => ∃ p vs, v = .ref p ∧ Reps K (Fz H μ Ω) μ Ω.length xs vs ∧ vs.length ≤ sizeLine ∧ SqT K H p vs ∧ (fracB xs = false → H p = some (.tup vs)) ∧ Rep K (Fz H μ Ω) μ Ω.length (.tup xs) v
  | .e0, v => ∃ p, v = .ref p ∧ SqT K H p []
  | .scr ns, v => ∃ p, v = .ref p ∧ ns.length ≤ 63 ∧ SqL K H p (ns.map V.int)
  | .hd k, v => v = .ref (μ k)
  | .exn c fs, v => Rep K (Fz H μ Ω) μ Ω.length (.exn c fs) v
  | .non, v => v = .non
  | .bl b, v => v = .bl b
  | .int i, v => v = .int i
  | .str s, v => v = .str s
section
variable {K : Frg} {W : WX} {σ : St} {H H' : Hp} {μ μ' : Mu} {Ω Ω' : Sto} {ρ : Env}
def toVf : D → V
  | .non => .non
  | .bl b => .bl b
  | .int i => .int i
  | .str s => .str s
  | _ => .non
end
end Rf
end
section
namespace Rf
open PySem L2
section
variable {K : Frg} {W : WX} {σ : St} {H H' : Hp} {μ μ' : Mu} {Ω Ω' : Sto} {ρ : Env} {n : Nat}
def Want (K : Frg) (H : Hp) (μ : Mu) (Ω : Sto) (d : D) (Q : VK) : Prop := ∀ v H', Ext K H μ Ω H' μ Ω → Rep K (Fz H' μ Ω) μ Ω.length d v → Q v H'
end
section
variable {X : Cx}
def r2 (K : Frg) (f : D → D → Option D) : R2 := fun x y H Q => ∃ μ Ω a b d, Wf K H μ Ω ∧ View K H μ Ω a x ∧ View K H μ Ω b y ∧ f a b = some d ∧ Want K H μ Ω d Q
end
end Rf
end
section
namespace Rf
open PySem L2
section
variable {K : Frg} {W : WX} {σ : St} {H H' G : Hp} {μ μ' : Mu} {Ω Ω' : Sto} {ρ : Env} {n : Nat}
end
def rc (K : Frg) (f : D → D → Option Bool) : R2 := fun x y H Q => ∃ μ Ω a b t, Wf K H μ Ω ∧ View K H μ Ω a x ∧ View K H μ Ω b y ∧ f a b = some t ∧ Q (.bl t) H
section
variable {X : Cx}
end
end Rf
end
section
namespace Rf
open PySem PySem.Spec PyProof.Rows L2
def mergeT (kvs more : List (List Key × V)) : List (List Key × V) := more.foldl (fun acc kv => putK acc kv.1 kv.2) kvs
section
variable {X : Cx} {pins : List (Addr × Obj)} {σ : L2.St} {H : Hp} {s : Shared}
end
end Rf
end
section
namespace Rf
open PySem L2
def Bi.val : Bi → Value
  | .len => .builtin "len" | .abs => .builtin "abs" | .all => .builtin "all" | .any => .builtin "any" | .int => .type "int" | .str => .type "str" | .list => .type "list" | .tuple => .type "tuple" | .dict => .type "dict"
  | .sorted => .builtin "sorted" | .sum => .builtin "sum" | .mn => .builtin "min"
def rb (K : Frg) (f : List D → Option D) : List V → Hp → VK → Prop := fun xs H Q => ∃ μ Ω ds d, Wf K H μ Ω ∧ Paired (View K H μ Ω) ds xs ∧ f ds = some d ∧ Want K H μ Ω d Q
section
variable {X : Cx}
end
end Rf
end
section
namespace Rf
open PySem L2
def TG_ (K : Frg) (W : WX) (f : Env → Sto → R D) : TE := fun σ H Q => ∃ μ Ω ρ, At K σ H μ Ω ρ ∧ Post K (rD K) W σ H μ Ω (f ρ Ω) Q
def TB_ (K : Frg) (W : WX) (f : Env → Sto → R D) : TT := fun σ H Q => ∃ μ Ω ρ, At K σ H μ Ω ρ ∧ Post K rQ W σ H μ Ω ((f ρ Ω).bind asBool) Q
section
variable {X : Cx} {W : WX} {ft : FT} {pos : Pos} {l r m : Expr} {a b c : E} {es rest : List Expr} {el : EL}
end
end Rf
end
section
namespace Rf
open PySem L2
section
variable {X : Cx} {W : WX} {ft : FT} {pos p : Pos} {l r m : Expr} {a b c : E} {es rest : List Expr} {el : EL}
def Bi.ok : Bi → Bool
  | .sorted => false
  | .mn => false
  | _ => true
def spD (K : Frg) (g : List D → Sto → R D) : Sp := fun vs H Q E => ∃ μ Ω ds, Wf K H μ Ω ∧ Reps K (Fz H μ Ω) μ Ω.length ds vs ∧ Post K (rD K) (fun c d _ H' => E c d H') [] H μ Ω (g ds Ω) Q
def Dfl (K : Frg) (fd : FuncData) (ps : List Str) (dfl : List D) (j : Nat) : Prop := ∃ dvs ds, (∀ G μ n, Reps K G μ n (dfl.drop j) dvs) ∧ Vals dvs ds ∧ Binds K fd ps ds
structure FnK (X : Cx) (dfl : List D) (ad : Addr) (g : List D → Sto → R D) : Prop where
  ex : ∃ k fd ps, FnOk X.prog X.w X.K X.mg X.base (L2.CX X.prog X.w) k ad fd ps (spD X.K g) ∧ Room (k + 1) X.A ∧ ∀ j, j ≤ dfl.length → Dfl X.K fd ps dfl j
  kp : PySem.W.keepIn X.K (.ref ad) = true
def tMethS (C : Addr) (m : Str) (sp : Sp) (dvs : List V) (E : St → XK) (ta : TE) (t : TA) : TE := fun σ H Q => ta σ H fun x H1 => ∃ q dx fs, x = .ref q ∧ H1 q = some (.ins C dx fs) ∧ fs.lookup m = none ∧
  t σ H1 fun vs H2 => sp (x :: (vs ++ dvs)) H2 Q (E σ)
end
end Rf
end
section
namespace Rf
open PySem L2
def plainE : Expr → Bool
  | .Starred _ _ => false
  | _ => true
def noSup : Expr → Bool
  | .Call (.Name id _) [] [] _ => id != "super"
  | _ => true
structure Dot (o : Expr) (apos pos : Pos) (es : List Expr) : Prop where
  sup : noSup o = true
  pl : es.all plainE = true
  few : es.length < 30
  line : (apos.endLine == pos.line) = true
section
variable {X : Cx} {W : WX} {ft : FT} {pos p : Pos} {l r m : Expr} {a b c : E} {es rest : List Expr} {el : EL}
end
end Rf
end
section
namespace Rf
open PySem L2
section
variable {X : Cx} {W : WX} {ft : FT} {pos p : Pos} {l r m : Expr} {a b c : E} {es rest : List Expr} {el : EL}
def tMakeS (C : Addr) (sp : Sp) (dvs : List V) (E : St → XK) (t : TA) : TE := fun σ H Q => t σ H fun vs H1 => ∀ x dx, H1 x = none → H1 dx = none → dx ≠ x →
  sp (.ref x :: (vs ++ dvs)) (upd (upd H1 dx (.own x)) x (.ins C dx [])) (fun v H2 => v = .non ∧ Q (.ref x) H2) (E σ)
end
inductive Kd where
  | non | bl | int | str | tup | lst | dct | own (c : Str)
  deriving DecidableEq
def kdOf : D → Kd
  | .non => .non
  | .bl _ => .bl
  | .int _ => .int
  | .str _ => .str
  | .tup _ => .tup
  | .e0 => .tup
  | .lst _ => .lst
  | .scr _ => .lst
  | .dk _ => .dct
  | .dt _ => .dct
  | .ins c _ => .own c
  | .hd _ => .non
  | .exn _ _ => .non
def kdB : Ty → Kd → Bool
  | .int, .int => true
  | .int, .bl => true
  | .bool, .bl => true
  | .str, .str => true
  | .list, .lst => true
  | .tuple, .tup => true
  | .dict, .dct => true
  | .own c, .own c' => decide (c' = c)
  | _, _ => false
def kdV (K : Frg) : Kd → Value
  | .non => .type "NoneType"
  | .bl => .type "bool"
  | .int => .type "int"
  | .str => .type "str"
  | .tup => .type "tuple"
  | .lst => .type "list"
  | .dct => .type "dict"
  | .own c => .ref (He.ga K c)
def tyN : Ty → Str
  | .int => "int"
  | .bool => "bool"
  | .str => "str"
  | .list => "list"
  | .tuple => "tuple"
  | .dict => "dict"
  | .own c => c
def tyU (K : Frg) : Ty → Value
  | .int => .type "int"
  | .bool => .type "bool"
  | .str => .type "str"
  | .list => .type "list"
  | .tuple => .type "tuple"
  | .dict => .type "dict"
  | .own c => .ref (He.ga K c)
def tyW (K : Frg) : Ty → V
  | .int => .ty "int"
  | .bool => .ty "bool"
  | .str => .ty "str"
  | .list => .ty "list"
  | .tuple => .ty "tuple"
  | .dict => .ty "dict"
  | .own c => .ref (He.ga K c)
structure OwnC (K : Frg) (c : Str) : Prop where
  cl : Cls K (He.ga K c)
  at_ : PySem.W.findIn K (.ref (He.ga K c)) "__class__" = some (some (.builtin "object.__class__"))
  sp : PySem.W.specialIn K (.builtin "object.__class__") "__get__" = some (some (.builtin "getset_descriptor.__get__"))
  tk : PySem.W.takesIn K (.builtin "object.__class__") = some true
  mro : PySem.W.mroIn K (He.ga K c) (.type "object") = some true
structure IsiOk (K : Frg) (cls : List Str) : Prop where
  own : ∀ c, cls.contains c = true → OwnC K c
  ans : ∀ k t, (∀ c, k = Kd.own c → cls.contains c = true) → tyOk cls t = true → PySem.W.kitOne K (kdV K k) (tyU K t) = some (kdB t k)
section
variable {X : Cx} {W : WX} {ft : FT} {pos p : Pos} {l r m : Expr} {a b c : E} {es rest : List Expr} {el : EL}
def rI1 (K : Frg) (cls : List Str) (t : Ty) : List V → Hp → VK → Prop := fun xs H Q => ∃ μ Ω d x b, xs = [x, tyW K t] ∧ View K H μ Ω d x ∧ isTys cls d [t] = some b ∧ Q (.bl b) H
def rIN (K : Frg) (cls : List Str) (ts : List Ty) : List V → Hp → VK → Prop := fun xs H Q => ∃ μ Ω d x tp b, xs = [x, .ref tp] ∧ H tp = some (.tup (ts.map (tyW K))) ∧ View K H μ Ω d x ∧ isTys cls d ts = some b ∧ Q (.bl b) H
def TyName (X : Cx) (t : Ty) : Prop := Gl X (tyN t) ∧ match t with
  | .own c => X.mg c = some (.ref (He.ga X.K c)) ∧ (c == ("__debug__" : Str)) = false
  | t => X.mg (tyN t) = none
end
end Rf
end
section
namespace Rf
open PySem L2
section
variable {X : Cx} {W : WX} {ft : FT} {pos p : Pos} {l r m : Expr} {a b c : E} {es rest : List Expr} {el : EL}
def rM (K : Frg) (m : Mt) : V → List V → Hp → VK → Prop := fun x vs H Q => ∃ μ Ω d ds, Wf K H μ Ω ∧ Rep K (Fz H μ Ω) μ Ω.length d x ∧ Reps K (Fz H μ Ω) μ Ω.length ds vs ∧ Post K (rD K) (fun _ _ _ _ => False) [] H μ Ω (methX m d ds Ω) Q
def recvV : Mt → V → Hp → Prop
  | .join, x, _ => ∃ s, x = .str s
  | .get1, x, H => ∃ q, x = .ref q ∧ IsD H q
  | .get2, x, H => ∃ q, x = .ref q ∧ IsD H q
  | _, x, H => ∃ q vs, x = .ref q ∧ H q = some (.lst vs)
end
end Rf
end
section
namespace Rf
open PySem L2
def Tg.all : Tg → List Nat
  | .nm i => [i]
  | .tp is => is
section
variable {X : Cx} {W : WX} {ft : FT} {pos p : Pos} {l r m tg : Expr} {a b c : E} {es rest : List Expr} {el : EL}
def gT : List Nat → TGs
  | [] => gNil
  | i :: is => gCons (gName i) (gT is)
def TgN (X : Cx) (i : Nat) (x : Str) : Prop := X.N[i]? = some x ∧ Loc X.env.scope x ∧ (X.fn x = true ∨ X.env.scope.names.lookup x = some .local)
def gTl (K : Frg) (n : Nat) (t : TGs) : TG := fun v σ H Q => gTup K n t v σ H Q ∨ gLst K n t v σ H Q
def TGv (K : Frg) : Tg → TG
  | .nm i => gName i
  | .tp is => gTl K is.length (gT is)
inductive TgOk (X : Cx) : Tg → Expr → Prop where
  | nm {i : Nat} {x : Str} {q : Pos} (h : TgN X i x) : TgOk X (.nm i) (.Name x q)
  | tp {is : List Nat} {es : List Expr} {k : Nat} {q : Pos} (h : Paired (fun i e => ∃ x q, e = Expr.Name x q ∧ TgN X i x) is es) : TgOk X (.tp is) (.Tuple es k q)
end
end Rf
end
section
namespace Rf
open PySem L2
def WF : WX := fun _ _ _ _ => False
abbrev Blk (X : Cx) (scope : Scope) (P : Cx → Prop) : Prop := ∀ (s : Shared) (H : Hp) (C : Addr) (cl : List (Str × Addr)) (fp : List Addr), P (X.blk s H scope (compEnvC scope cl C X.env) fp)
section
variable {K : Frg} {W : WX} {ft : FT} {σ : St} {H : Hp} {μ : Mu} {Ω : Sto} {ρ : Env}
def lcT (ft : FT) (own : List Nat) (t : Tg) (c : EO) (e : E) (ρ : Env) : D → Sto → R (Option D) := fun d Ω => match bindT t d (wipeD ρ own) with
  | some ρ2 => (evC ft c ρ2 Ω).bind fun b Ω => if b then (evE ft e ρ2 Ω).bind fun y Ω => .ok (some y) Ω else .ok none Ω
  | none => .bad
end
section
variable {X : Cx} {W : WX} {ft : FT} {pos p : Pos} {l r m tg elt iter : Expr} {a b e : E} {ifs : List Expr} {scope : Scope} {own : List (Str × Nat)} {t : Tg} {sr : Sr} {c : EO}
end
end Rf
end
section
namespace Rf
open PySem PySem.Spec PyProof.Rows L2
structure Grow (P : Program) (w : World) (h0 : Heap) (S : Addr) (items : Array Value) (J : Nat → Heap → Prop) : Prop where
  keep : ∀ i h h', J i h → (∀ o, h.get? S = some o → h'.get? S = some o) → (∀ b o, h0.get? b = some o → h'.get? b = some o) → J i h'
  step : ∀ (i : Nat) (v : Value) (A : Around) (E : Value → Shared → Prop) (s : Shared) (Q : Bool → Shared → Prop), A.units < cLine → items[i]? = some v → J i s.heap → (∀ b o, h0.get? b = some o → s.heap.get? b = some o) →
    (∀ b h' tk, s.toks ≤ tk → Heap.SameBut S s.heap h' → J (i + 1) h' → Q b { s with heap := h', toks := tk }) → wpAny (model P w) A (setAdd S v) Q E s
section
variable {P : Program} {w : World} {A : Around} {E : Value → Shared → Prop} {s : Shared}
end
end Rf
end
section
namespace Rf
open PySem PySem.Spec PyProof.Rows L2
def skey (e : Int × Value) : Str := match e.2 with | .str k _ => k | _ => Str.empty
def GoodS (w : World) (e : Int × Value) : Prop := ∃ k tk, e.2 = Value.str k tk ∧ e.1 = hashStr w k
def SetS (w : World) (h : Heap) (a : Addr) (l : List Str) : Prop :=
  ∃ o es ep t, h.get? a = some o ∧ o.ExactSet ∧ o.data = .set es ep t ∧ (∀ e ∈ es.toList, GoodS w e) ∧ (es.toList.map skey).Perm l ∧ l.Nodup ∧ es.size < scanBound ∧ t.fits es.size = true ∧ Ris t.place.toList ∧ (w.params.followText "set-order" = true ∨ t.led = true)
section
variable {P : Program} {w : World} {A : Around} {E : Value → Shared → Prop} {s : Shared} {a : Addr} {l : List Str}
end
section
variable {X : Cx}
end
end Rf
end
section
namespace Rf
open PySem PySem.Spec PyProof.Rows L2
structure Flat (P : Program) (w : World) {κ : Type} [DecidableEq κ] (d : KeyKind P w κ) : Prop where
  cls : ∀ n k v, d.is k v = true → ofAClassStatement n v = pure false
  hsh : ∀ n k v, d.is k v = true → ∃ c, hashByValue n v = pure c
section
variable {P : Program} {w : World} {κ : Type} [DecidableEq κ] {d : KeyKind P w κ} {A : Around} {E : Value → Shared → Prop} {s : Shared}
abbrev TIs (d : KeyKind P w κ) (h : Heap) (k : List κ) (b : Addr) : Prop := IsTupleKey d h k b
def rowsT (d : KeyKind P w κ) (L : List (Addr × List κ)) : List (Int × Value) := L.map fun p => (tupleKeyHash d p.2, Value.ref p.1)
structure SetU (d : KeyKind P w κ) (h : Heap) (a : Addr) (L : List (Addr × List κ)) (es : Array (Int × Value)) (ep : Nat) (t : SetTable) : Prop where
  ob : ∃ o, h.get? a = some o ∧ o.ExactSet ∧ o.data = .set es ep t
  rows : es.toList = rowsT d L
  tab : TabOk t (L.map fun p => tupleKeyHash d p.2)
  nd : (L.map (·.2)).Nodup
  tup : ∀ p ∈ L, TIs d h p.2 p.1
  led : w.params.followText "set-order" = true ∨ t.led = true
  room : L.length * 5 < t.mask * 3
  few : L.length < 64
variable {a : Addr} {L : List (Addr × List κ)} {es : Array (Int × Value)} {ep : Nat} {t : SetTable}
abbrev st0 (t : SetTable) (h : Int) : SetTable.Probe := runAt t.mask (SetTable.bits h % (t.mask + 1)) (SetTable.bits h)
end
end Rf
end
section
namespace Rf
open PySem PySem.Spec PyProof.Rows L2
section
variable {P : Program} {w : World} {κ : Type} [DecidableEq κ] {d : KeyKind P w κ} {A : Around} {E : Value → Shared → Prop} {s : Shared} {a : Addr} {L : List (Addr × List κ)} {es : Array (Int × Value)} {ep : Nat} {t : SetTable}
structure GotU (ks : List (Addr × List κ)) (i : Nat) (L : List (Addr × List κ)) : Prop where
  sub : ∀ p ∈ L, p ∈ ks.take i
  all : ∀ p ∈ ks.take i, p.2 ∈ L.map (·.2)
  len : L.length ≤ i
end
end Rf
end
section
namespace Rf
open PySem PySem.Spec PyProof.Rows L2 PySem.W
def encT (k : List Str) : PyData := .tuple (k.map .str)
section
variable {P : Program} {w : World} {A : Around} {E : Value → Shared → Prop} {s : Shared} {a : Addr}
end
end Rf
end
section
namespace Rf
open PySem PySem.Spec PyProof.Rows L2 PySem.W
section
variable {X : Cx} {pins : List (Addr × Obj)} {σ : L2.St} {H : Hp} {s : Shared}
def TupL (K : Frg) (H : Hp) (l : Addr) (ps : List (Addr × List Str)) : Prop := SqL K H l (ps.map fun p => V.ref p.1) ∧ ∀ p ∈ ps, H p.1 = some (.tup (p.2.map V.str))
def rSortTs (K : Frg) : List V → Hp → VK → Prop := fun vs H Q => ∃ (l : Addr) (ps : List (Addr × List Str)), vs = [V.ref l] ∧ TupL K H l ps ∧ ps.length ≤ sizeLine ∧ (ps.length ≤ 1 ∨ ∀ p ∈ ps, p.2 ≠ []) ∧
  ∀ (ps' : List (Addr × List Str)) (q : Addr), ps'.map (·.2) = (ps.map (·.2)).mergeSort leSs → (∀ p ∈ ps', p ∈ ps) → H q = none → Q (.ref q) (upd H q (.lst (ps'.map fun p => V.ref p.1)))
end
end Rf
end
section
namespace Rf
open PySem PySem.Spec PyProof.Rows L2 PySem.W
def encTT (k : List (List Str)) : PyData := .tuple (k.map encT)
section
variable {X : Cx} {pins : List (Addr × Obj)} {σ : L2.St} {H : Hp} {s : Shared} {β : Type}
def rSortEnc (K : Frg) (enc : β → PyData) : List V → Hp → VK → Prop := fun vs H Q => ∃ (l : Addr) (ps : List (Addr × β)), vs = [V.ref l] ∧ SqL K H l (ps.map fun p => V.ref p.1) ∧ (∀ p ∈ ps, Dp K H (.ref p.1) (enc p.2)) ∧ ps.length ≤ sizeLine ∧ AllAlike ((ps.map (·.2)).map enc) ∧ Sortable ((ps.map (·.2)).map enc) ∧ (∀ p ∈ ps, (enc p.2).depth ≤ 50) ∧
  ∀ (ps' : List (Addr × β)) (q : Addr), ps'.map (·.2) = (ps.map (·.2)).mergeSort (dataLe false enc) → (∀ p ∈ ps', p ∈ ps) → H q = none → Q (.ref q) (upd H q (.lst (ps'.map fun p => V.ref p.1)))
end
end Rf
end
section
namespace Rf
open PySem L2
section
variable {X : Cx} {W : WX} {ft : FT} {pos p : Pos} {l : Expr} {a : E} {es : List Expr} {el : EL}
def rbN (K : Frg) : List V → Hp → VK → Prop := fun xs H Q => ∃ μ Ω c ys v, xs = [v] ∧ Wf K H μ Ω ∧ View K H μ Ω c v ∧ listD c = some (.lst ys) ∧ ∀ vs, Reps K (Fz H μ Ω) μ Ω.length ys vs → vs.length ≤ sizeLine → ∀ q, H q = none → Q (.ref q) (upd H q (.lst vs))
def Bi.okA : Bi → Bool
  | _ => true
end
end Rf
end
section
namespace Rf
open PySem L2 PySem.Spec PyProof.Rows
section
variable {prog : Program} {w : World} {A : Around} {E : Value → Shared → Prop} {s : Shared}
end
def ItEn (K : Frg) (a : Addr) : It :=
  ⟨fun i H => ∃ (xs : List V) (x : V), SqT K H a xs ∧ xs[i]? = some x, fun i H v H' => ∃ T x, v = .ref T ∧ H T = none ∧ H' = upd H T (.tup [.int (i : Nat), x]) ∧ ∀ xs, SqT K H a xs → xs[i]? = some x, fun i H => ∃ xs : List V, SqT K H a xs ∧ xs.length ≤ i⟩
end Rf
end
section
namespace Rf
open PySem L2 PyProof.Rows
def iEn (K : Frg) (ta : TA) : TI := fun σ H R => ta σ H fun vs H1 => ∃ a xs, vs = [.ref a] ∧ SqT K H1 a xs ∧ R (ItEn K a) H1
section
variable {K : Frg} {H : Hp} {μ : Mu} {Ω : Sto}
end
section
variable {X : Cx} {W : WX} {ft : FT} {pos p : Pos} {l r : Expr} {a b : E}
end
end Rf
end
section
namespace Rf
open PySem L2 PyProof.Rows
structure Fills (X : Cx) (pins : List (Addr × Obj)) (σ : L2.St) (A1 : Around) (q it : Addr) (n : Nat) (P : Nat → List V → Hp → Shared → Prop) (R : List V → Hp → Prop) : Prop where
  item : ∀ i acc H s, i < n → P i acc H s → wpAny (model X.prog X.w) A1 (pyNext (.ref it)) (fun r s' => ∃ u v H', r = some u ∧ Inv X pins σ H' s' ∧ RelV v u ∧ H' q = some (.lst acc) ∧ acc.length < sizeLine ∧
    ∀ s2, Inv X pins σ (upd H' q (.lst (acc ++ [v]))) s2 → (∀ b o, b ≠ q → s'.heap.get? b = some o → s2.heap.get? b = some o) → P (i + 1) (acc ++ [v]) (upd H' q (.lst (acc ++ [v]))) s2) X.xe s
  done : ∀ acc H s, P n acc H s → wpAny (model X.prog X.w) A1 (pyNext (.ref it)) (fun r s' => r = none ∧ ∃ H', Inv X pins σ H' s' ∧ R acc H') X.xe s
def ZSt (q z TI TO i1 i2 a b : Addr) (i : Nat) (h : Heap) : Prop := IsPair h TI (.ref i1) (.ref i2) ∧ h.IsListIter i1 a i ∧ h.IsListIter i2 b i ∧ (∃ o, h.get? TO = some o) ∧
  ((IsZip h z TI TO .none ∧ ∃ x y, IsPair h TO x y) ∨ ∃ T f oT, IsZipHeld h z TI TO T f ∧ h.get? T = some oT ∧ T ≠ z ∧ T ≠ i1 ∧ T ≠ i2 ∧ T ≠ q)
structure ZipG (K : Frg) (q a b : Addr) (xs ys : List V) (G : Nat → List V → Hp → Prop) : Prop where
  sa : ∀ i acc H, G i acc H → SqL K H a xs
  sb : ∀ i acc H, G i acc H → SqL K H b ys
  at_ : ∀ i acc H, G i acc H → H q = some (.lst acc) ∧ acc.length = i
  step : ∀ i acc H T x y, G i acc H → xs[i]? = some x → ys[i]? = some y → H T = none → T ≠ q → G (i + 1) (acc ++ [.ref T]) (upd (upd H T (.tup [x, y])) q (.lst (acc ++ [.ref T])))
section
variable {X : Cx} {pins : List (Addr × Obj)} {σ : L2.St}
end
end Rf
end
section
namespace Rf
open PySem L2 PyProof.Rows
abbrev kiObj (d : Addr) (es : Array DictEntry) (ep : Nat) : Obj := { cls := .type "dict_keyiterator", data := .fields #[.ref d, .int 0 0, .int es.size 0, .int ep 0] }
def KiO (d it : Addr) (o : Obj) : HO := .ext fun h => ∃ es ep, o.data = .dict es ep ∧ h.get? it = some (kiObj d es ep)
def Newest (H : Hp) (it : Addr) : Prop := H it = none ∧ ∀ q o, H q = some o → q < it
def rIterD (n : Nat) : List V → Hp → VK → Prop := fun xs H Q => ∃ d o kvs, xs = [.ref d] ∧ H d = some (.frz o (.dK kvs)) ∧ ∀ it, Newest H it → n ≤ it → Q (.ref it) (upd H it (KiO d it o))
section
variable {X : Cx}
end
def spIter (n : Nat) (C : Addr) (g : Str) : Sp := fun vs H Q _ => ∃ a dx fs d o kvs, vs = [.ref a] ∧ H a = some (.ins C dx fs) ∧ fs.lookup g = some (.ref d) ∧ H d = some (.frz o (.dK kvs)) ∧ ∀ it, Newest H it → n ≤ it → Q (.ref it) (upd H it (KiO d it o))
section
variable {P : Program} {w : World} {K : Frg} {mg : Str → Option Value} {base : Heap} {x qual nm : Str} {params : Arguments} {body : List Stmt} {scope : Scope} {dvs : List V} {kws : List (Str × V)} {f C : Addr} {fd : FuncData} {g : Str} {p1 p2 p3 p4 p5 : Pos}
end
end Rf
end
section
namespace Rf
open PySem L2 PyProof.Rows
def spLen (C : Addr) (g : Str) : Sp := fun vs H Q _ => ∃ a dx fs d o kvs, vs = [.ref a] ∧ H a = some (.ins C dx fs) ∧ fs.lookup g = some (.ref d) ∧ H d = some (.frz o (.dK kvs)) ∧ Q (.int kvs.length) H
section
variable {P : Program} {w : World} {K : Frg} {mg : Str → Option Value} {base : Heap} {x qual nm : Str} {params : Arguments} {body : List Stmt} {scope : Scope} {dvs : List V} {kws : List (Str × V)} {f C : Addr} {fd : FuncData} {g : Str} {p1 p2 p3 p4 p5 : Pos}
end
structure InsIt (X : Cx) (C : Addr) (g : Str) (n : Nat) (fi fl : Addr) (fdI fdL : FuncData) (psI psL : List Str) : Prop where
  it : PySem.W.findIn X.K (.ref C) "__iter__" = some (some (.ref fi))
  itF : PySem.W.isFn X.K (.ref fi) = true
  ln : PySem.W.findIn X.K (.ref C) "__len__" = some (some (.ref fl))
  lnF : PySem.W.isFn X.K (.ref fl) = true
  FI : ∀ b : Heap, FnOk X.prog X.w X.K X.mg b (L2.CX X.prog X.w) n fi fdI psI (spIter b.objs.size C g)
  bI : Binds X.K fdI psI []
  FL : FnOk X.prog X.w X.K X.mg X.base (L2.CX X.prog X.w) n fl fdL psL (spLen C g)
  bL : Binds X.K fdL psL []
  hr : Room (n + 3) X.A
section
variable {X : Cx} {pins : List (Addr × Obj)} {σ : L2.St} {H : Hp} {s : Shared} {C : Addr} {g : Str} {n : Nat} {fi fl : Addr} {fdI fdL : FuncData} {psI psL : List Str}
end
end Rf
end
section
namespace Rf
open PySem L2
def NoOp (K : Frg) (op : Operator) (tn : String) : Prop := PySem.W.findIn K (.type tn) (PySem.dunder op.info.2) = some none ∧ PySem.W.findIn K (.type tn) (dunderR op.info.2) = some none
structure OpCls (K : Frg) (C : Addr) (op : Operator) : Prop where
  first : PySem.W.selfFirst K C = true
  lst : noList op = true → NoOp K op "list" ∧ NoOp K op "tuple"
section
variable {X : Cx} {pins : List (Addr × Obj)} {σ : L2.St} {H : Hp} {s : Shared} {a C dx : Addr} {fs : List (Str × V)}
end
section
variable {X : Cx} {W : WX} {ft : FT} {pos : Pos} {l r : Expr} {a b : E}
end
end Rf
end
section
namespace Rf
open PySem L2
structure EqCls (K : Frg) (C : Addr) : Prop where
  ne : PySem.W.findIn K (.ref C) "__ne__" = some (some (.builtin "object.__ne__"))
  ob : PySem.W.subIn K (.ref C) (.type "object") = some true
section
variable {prog : Program} {w : World} {A : Around} {E : Value → Shared → Prop} {s : Shared} {K : Frg} {x y C f : Addr} {ox oy : Obj} {od od2 : Option Obj}
end
section
variable {X : Cx} {pins : List (Addr × Obj)} {σ : L2.St} {H : Hp} {s : Shared}
end
section
variable {X : Cx} {W : WX} {ft : FT} {pos : Pos} {l r : Expr} {a b : E}
end
end Rf
end
section
namespace Rf
open PySem L2 PyProof.Rows
structure XIn (P : Program) (K : Frg) (C fI cc c : Addr) (g : Option Str) (qual : Str) (params : Arguments) (body : List Stmt) (scope : Scope) : Prop where
  T : OexC K C
  iC : PySem.W.findIn K (.ref C) "__init__" = some (some (.ref fI))
  tI : PySem.W.typeIn K (.ref fI) = some (.type "function")
  fn : ∃ oc od doc pm an ct osl, K.lookup fI = some ⟨oc, od, .func (PySem.W.fnX "__init__" qual params body scope [("__class__", cc)] .none .none doc pm an (.ref c) ct), osl⟩
  cd : PySem.W.codeIn K (.ref c) qual = true
  file : ∃ ccl cdd vs ccs file tf, K.lookup c = some ⟨ccl, cdd, .fields vs, ccs⟩ ∧ vs[2]? = some (.str file tf) ∧ ((P.main.file : Str) == file) = true
  cell : ∃ cl cld csl, K.lookup cc = some ⟨cl, cld, .cell (some (.ref C)), csl⟩
  sup : PySem.W.ks_superIn K C C "__init__" = some (some (.builtin "ValueError.__init__"))
  op : PySem.W.nsIn K cStatics "thirdparty.any" = some none
  mr : PySem.W.mroIn K C (.ref C) = some true
  sb : PySem.W.subIn K (.ref C) (.type "ValueError") = some true
  top : (P.main.scope.names.lookup ("super" : Str)).isSome = false
  par : params.posonlyargs = [] ∧ params.vararg = none ∧ params.kwonlyargs = [] ∧ params.kwarg = none ∧ params.args.map (·.arg) = ("self" : Str) :: g.toList ∧ (("self" : Str) :: g.toList).Nodup
  sc : NdefX.NScope (("self" : Str) :: g.toList ++ [("__class__" : Str)]) (("self" : Str) :: g.toList) ["__class__"] scope
  sg : scope.names.lookup ("super" : Str) = some .globalImplicit
  bd : ∃ p0 p1 p2 p3 p4 t kd p5 rest, body = .Expr (.Call (.Attribute (.Call (.Name "super" p0) [] [] p1) "__init__" p2) [.Constant (.str t) kd p5] [] p3) p4 :: rest ∧ (p2.endLine == p3.line) = true ∧
    (match g with
    | none => rest = []
    | some f => ∃ q0 q1 q2 q3, rest = [.Assign [.Attribute (.Name "self" q0) f q1] (.Name f q2) q3] ∧ PySem.W.findIn K (.ref C) f = some none ∧ (f == ("__debug__" : Str)) = false ∧ (f == ("__classdict__" : Str)) = false)
def spX (C : Addr) : Option Str → Sp
  | none => fun vs H Q _ => ∃ a, vs = [.ref a] ∧ H a = some (exo a C none) ∧ Q .non H
  | some f => fun vs H Q _ => ∃ a v, vs = [.ref a, v] ∧ H a = some (exo a C none) ∧ ∀ d, H d = none → d ≠ a → Q .non (upd (upd H d (exd d [(f, v)])) a (exo a C (some d)))
section
open PySem.W
variable {prog : Program} {w : World} {A : Around} {E : Value → Shared → Prop} {h : Heap} {g : Array GenState} {d : Drawn} {t : Nat} {os : OsState}
variable {nm q : Str} {C N : Addr} {bs bm : List Value} {hdct : Bool} {sn : List Str} {sub : List Value} {ab : Bool} {col : Option Bool} {dd : Option Addr} {k0 k1 k2 k3 k5 : Option Value}
end
section
variable {P : Program} {K : Frg} {C fI cc c : Addr} {g : Option Str} {qual : Str} {params : Arguments} {body : List Stmt} {scope : Scope}
abbrev XIn.nf (qual : Str) (params : Arguments) (body : List Stmt) (scope : Scope) (cc c : Addr) : NdefX.NF := ⟨"__init__", qual, params, body, scope, [("__class__", cc)], c⟩
def KwX (K : Frg) (fd : FuncData) (g : Option Str) : Prop := ∀ f, g = some f → KBn K fd [("self" : Str), f] 1 [f] (fun us ws => us ++ ws) (fun vs zs => vs ++ zs)
end
end Rf
end
section
namespace Rf
open PySem L2 PyProof.Rows
def XCl (X : Cx) (c : Str) (fs : List Str) : Prop := ∃ (g : Option Str) (fI : Addr) (k : Nat) (fd : FuncData), fs = g.toList ∧ OexC X.K (He.ga X.K c) ∧ PySem.W.findIn X.K (.ref (He.ga X.K c)) "__init__" = some (some (.ref fI)) ∧ PySem.W.typeIn X.K (.ref fI) = some (.type "function") ∧
  FnOk X.prog X.w X.K X.mg X.base (L2.CX X.prog X.w) k fI fd (("self" : Str) :: g.toList) (spX (He.ga X.K c) g) ∧ Room (k + 1) X.A ∧ L2.Binds X.K fd (("self" : Str) :: g.toList) [] ∧ KwX X.K fd g
section
variable {X : Cx} {W : WX} {ft : FT}
end
end Rf
end
section
namespace Rf
open PySem L2 PyProof.Rows
abbrev Cl2 := Value × Option Nat × (Addr → Value → Option Addr → TS)
def endAs (D : Ends) : Option Nat → Ends
  | none => D
  | some i => { nx := fun σ' H' => D.nx (σ'.set i none) H', rt := D.rt, bk := fun σ' H' => D.bk (σ'.set i none) H', ct := fun σ' H' => D.ct (σ'.set i none) H' }
def atAs (σ : L2.St) (a : Addr) : Option Nat → L2.St
  | none => σ
  | some i => σ.set i (some (.ref a))
def wMany2 (K : Frg) (Wout : WX) (D : Ends) : List Cl2 → WX
  | [] => Wout
  | (c, i, ts) :: r => fun cls d σ H => ∃ b, PySem.W.exmOne K cls c = some b ∧ (b = true → ∀ a, H a = none → ts a cls d (endAs D i) (atAs σ a i) H) ∧ (b = false → wMany2 K Wout D r cls d σ H)
inductive Hds2 (X : Cx) : List ExceptHandler → List Cl2 → Prop
  | nil : Hds2 X [] []
  | cons {x : Str} {c : Value} {nm : Option Str} {i : Option Nat} {ts : Addr → Value → Option Addr → TS} {b₀ : Stmt} {suite : List Stmt} {np pos' : Pos} {hds : List ExceptHandler} {l : List Cl2} (hc : Names X x c)
      (hn : (nm = none ∧ i = none) ∨ ∃ n j, nm = some n ∧ i = some j ∧ X.N[j]? = some n ∧ X.env.kindOf n = some .local)
      (hsu : ∀ (a : Addr) (oe : Obj) (cls : Value) (d : Option Addr) (pn : List (Addr × Obj)), Zc cls d oe → (∃ vs, oe.data = .fields vs) → PSs (X.suite a ((a, oe) :: pn)) (b₀ :: suite) (ts a cls d)) (r : Hds2 X hds l) :
      Hds2 X (.ExceptHandler (some (.Name x np)) nm (b₀ :: suite) pos' :: hds) ((c, i, ts) :: l)
section
variable {X : Cx} {body : List Stmt} {h₀ : ExceptHandler} {hds : List ExceptHandler} {l : List Cl2} {pos : Pos} {tb : WX → TS} {Wout : WX}
end
def conE : E → Bool
  | .non => true
  | .bl _ => true
  | .int _ => true
  | .str _ => true
  | .tup (.cons (.str _) .nil) => true
  | .emp neg (.idx (.var _) (.var _)) => !neg
  | _ => false
inductive VOk (X : Cx) (ft : FT) : Option Nat → Str → HV → Expr → Prop
  | tag {i : Nat} {n c s f : Str} {j k : Nat} {p1 p2 p3 p4 : Pos} (hn : X.N[i]? = some n) (hv : Vis X.env.scope n) (hd : (n == ("__debug__" : Str)) = false) (hcd : (n == ("__classdict__" : Str)) = false) (T : XfC X.K (He.ga X.K c)) (hno : PySem.W.findIn X.K (.ref (He.ga X.K c)) f = some none) :
      VOk X ft (some i) c (.tag s f) (.Tuple [.Constant (.str s) j p1, .Attribute (.Name n p2) f p3] k p4)
  | fld {i : Nat} {n c f : Str} {p2 p3 : Pos} (hn : X.N[i]? = some n) (hv : Vis X.env.scope n) (hd : (n == ("__debug__" : Str)) = false) (hcd : (n == ("__classdict__" : Str)) = false) (T : XfC X.K (He.ga X.K c)) (hno : PySem.W.findIn X.K (.ref (He.ga X.K c)) f = some none) :
      VOk X ft (some i) c (.fld f) (.Attribute (.Name n p2) f p3)
  | con {i : Option Nat} {c : Str} {e : E} {l : Expr} (he : conE e = true) (h : ∀ a pn, PE (X.suite a pn) l (TEv X.K (fun _ _ _ _ => False) ft e)) : VOk X ft i c (.con e) l
inductive AOk (X : Cx) (ft : FT) : Option Nat → Str → HA → List Stmt → Prop
  | set {i : Option Nat} {c y : Str} {j : Nat} {v : HV} {l : Expr} {py pos : Pos} (hv : VOk X ft i c v l) (hy : X.N[j]? = some y) (hl : X.env.scope.names.lookup y = some .local) (hs : ∀ line, swapsWith l (some (.Name y py)) line X.env = pure false) (hne : ∀ k, i = some k → j ≠ k) :
      AOk X ft i c (.set j v) [.Assign [.Name y py] l pos]
  | ret {i : Option Nat} {c : Str} {v : HV} {l : Expr} {pos : Pos} (hv : VOk X ft i c v l) : AOk X ft i c (.ret v) [.Return (some l) pos]
inductive HsOk (X : Cx) (ft : FT) : List ExceptHandler → List Hd → Prop
  | nil : HsOk X ft [] []
  | cons {h : Hd} {nm : Option Str} {ss : List Stmt} {np pos' : Pos} {hds : List ExceptHandler} {hs : List Hd} (hc : Names X h.c (.ref (He.ga X.K h.c))) (hx : ∀ c', (ft.xf c').isSome = true → PySem.W.exmOne X.K (.ref (He.ga X.K c')) (.ref (He.ga X.K h.c)) = some (decide (c' = h.c)))
      (hn : (nm = none ∧ h.as = none) ∨ ∃ n j, nm = some n ∧ h.as = some j ∧ X.N[j]? = some n ∧ X.env.kindOf n = some .local) (ok : AOk X ft h.as h.c h.act ss) (r : HsOk X ft hds hs) :
      HsOk X ft (.ExceptHandler (some (.Name h.c np)) nm ss pos' :: hds) (h :: hs)
end Rf
end
section
namespace Rf
open PySem L2 PyProof.Rows
inductive FmOk (a : Str) (N : List Str) (sc : Scope) : Fm → Stmt → Prop
  | expr {p1 p2 p3 : Pos} : FmOk a N sc .expr (.Expr (.Call (.Name a p1) [] [] p2) p3)
  | ret {s : Str} {j k : Nat} {p1 p2 p3 p4 p5 : Pos} : FmOk a N sc (.ret s) (.Return (some (.Tuple [.Constant (.str s) j p4, .Call (.Name a p1) [] [] p2] k p5)) p3)
  | set {i j k : Nat} {s y : Str} {py p1 p2 p3 p4 p5 : Pos} (hy : N[i]? = some y) (hl : sc.names.lookup y = some .local) : FmOk a N sc (.set i s) (.Assign [.Name y py] (.Tuple [.Constant (.str s) j p4, .Call (.Name a p1) [] [] p2] k p5) p3)
inductive PreOk (N : List Str) (sc : Scope) : Option Nat → List Stmt → Prop
  | none : PreOk N sc none []
  | some {i j : Nat} {y : Str} {py p1 p2 : Pos} (hy : N[i]? = some y) (hl : sc.names.lookup y = some .local) (hi : 0 < i) : PreOk N sc (some i) [.Assign [.Name y py] (.Constant .none j p1) p2]
def TTr (K : Frg) (ft : FT) (n : Nat) (h : HD) : (XK → Hp → VK → Prop) → Hp → VK → Prop := fun tl H Q => ∃ μ Ω a0, Wf K H μ Ω ∧ (∀ E Q', Post K (rD K) (fun c d _ H' => E c d H') [] H μ Ω a0 Q' → tl E H Q') ∧ Post K (rD K) (fun _ _ _ _ => False) [] H μ Ω (runH ft n h a0 Ω) Q
section
variable {X : Cx}
end
end Rf
end
section
namespace Rf
open PySem L2 PyProof.Rows
section
variable {X : Cx} {pins : List (Addr × Obj)} {σ : L2.St} {H : Hp} {s : Shared}
end
section
variable {X : Cx} {a C : Addr} {oe : Obj} {cls : Value} {d : Option Addr}
structure IsC (K : Frg) (D : Addr) : Prop where
  hc : (PySem.W.clsIn K D).isSome = true
  ha : PySem.W.findIn K (.ref D) "__class__" = some (some (.builtin "object.__class__"))
  hn : PySem.W.specialIn K (.builtin "object.__class__") "__get__" = some (some (.builtin "getset_descriptor.__get__"))
  ht : PySem.W.takesIn K (.builtin "object.__class__") = some true
  hm : PySem.W.mroIn K D (.type "object") = some true
def rIsK (K : Frg) (cls : Value) (a : Addr) (d : Option Addr) : List V → Hp → VK → Prop := fun xs H Q => ∃ (c : V) (cv : Value) (b : Bool), xs = [.ref a, c] ∧ (∀ u, RelV c u → u = cv) ∧ PySem.W.kitOne K cls cv = some b ∧ (∃ dd fs, d = some dd ∧ H dd = some (.xd fs)) ∧ Q (.bl b) H
end
section
variable {X : Cx} {body rest : List Stmt} {x1 x2 x3 x4 n y : Str} {c1 c2 c3 c4 : Value} {i j kk : Nat} {p1 p2 p3 p4 tpos py pn' pa pos' pos : Pos} {hds : List ExceptHandler} {l : List Cl2} {tb : WX → TS} {Wout : WX} {tr : TS} {tk' : Addr → Value → Option Addr → TS}
end
end Rf
end
section
namespace Rf
open PySem L2 PyProof.Rows
def xqN (k : Xq) (c : Str) : Str := match k with
  | .blt => "ValueError"
  | _ => c
def xqV (K : Frg) (k : Xq) (c : Str) : V := match k with
  | .blt => .ty "ValueError"
  | _ => .ref (He.ga K c)
def xqU (K : Frg) (k : Xq) (c : Str) : Value := match k with
  | .blt => .type "ValueError"
  | _ => .ref (He.ga K c)
def xqG (K : Frg) (mg : Str → Option Value) (k : Xq) (c : Str) : Prop := match k with
  | .blt => mg "ValueError" = none
  | _ => mg c = some (.ref (He.ga K c)) ∧ (c == ("__debug__" : Str)) = false
structure IsXF (K : Frg) (mg : Str → Option Value) (ft : FT) (c : Str) (k : Xq) : Prop where
  ans : ∀ q, ((ft.xf q).isSome || ft.x0.contains q) = true → XfC K (He.ga K q) ∧ IsC K (He.ga K q) ∧ PySem.W.kitOne K (.ref (He.ga K q)) (xqU K k c) = some (k.is q c)
  non : k = .leaf → PySem.W.kitOne K (.type "NoneType") (xqU K k c) = some false
  mg : xqG K mg k c
def X0F (K : Frg) (C : Addr) : Prop := (∃ (bm : List Value) (B n i : String), ExcBaseFacts B n i bm ∧ PySem.W.excIn K C bm n = true) ∧ PySem.W.keepIn K (.ref C) = true
section
variable {X : Cx} {W : WX} {ft : FT} {pos p : Pos} {l : Expr} {a : E} {c : Str} {k : Xq}
def rIX (X : Cx) (ft : FT) (c : Str) (k : Xq) : List V → Hp → VK → Prop := fun xs H Q => ∃ x b, xs = [x, xqV X.K k c] ∧
  ((x = .non ∧ k = .leaf ∧ b = false) ∨ ∃ p q d, x = .ref p ∧ H p = some (exo p (He.ga X.K q) d) ∧ (d = none ∨ ∃ dx ws, d = some dx ∧ H dx = some (exd dx ws)) ∧ ((ft.xf q).isSome || ft.x0.contains q) = true ∧ b = k.is q c) ∧ Q (.bl b) H
end
end Rf
end
section
namespace Rf
open PySem L2
def GenR (r : R D) : Prop := (∃ os Ω', r = .ok (.lst os) Ω' ∧ os.length ≤ big) ∨ r = .bad
def spG (K : Frg) (g : List D → Sto → R D) : SpG := fun vs H Q _ => ∃ μ Ω ds os Ω', Wf K H μ Ω ∧ Reps K (Fz H μ Ω) μ Ω.length ds vs ∧ g ds Ω = .ok (.lst os) Ω' ∧ os.length ≤ big ∧ ∀ ws H' μ', Ext K H μ Ω H' μ' Ω' → Reps K (Fz H' μ' Ω') μ' Ω'.length os ws → Q ws H'
structure GnK (X : Cx) (ad : Addr) (g : List D → Sto → R D) : Prop where
  ex : ∃ k fd ps, GFn X.prog X.w X.K X.mg X.base k ad fd ps (spG X.K g) ∧ Room (k + 3) X.A ∧ Binds X.K fd ps []
  kp : PySem.W.keepIn X.K (.ref ad) = true
  is : ∀ ds Ω, GenR (g ds Ω)
section
variable {X : Cx} {W : WX} {ft : FT} {el : EL} {l : Expr} {es : List Expr} {p q pos pos' : Pos}
end
end Rf
end
section
namespace Rf
open PySem L2
section
variable {K : Frg} {W : WX} {ft : FT}
def trs (K : Frg) (W : WX) (ft : FT) : EL → List (TE × TE)
  | .cons k (.cons v r) => (TEv K W ft k, TEv K W ft v) :: trs K W ft r
  | _ => []
inductive PR (K : Frg) (G : Hp) (μ : Mu) (n : Nat) : List D → List (V × V) → Prop
  | nil : PR K G μ n [] []
  | cons {k v : D} {r : List D} {x y : V} {ps : List (V × V)} : Rep K G μ n k x → Rep K G μ n v y → PR K G μ n r ps → PR K G μ n (k :: v :: r) ((x, y) :: ps)
end
section
variable {X : Cx} {W : WX} {ft : FT} {pos : Pos} {es : EL}
end
end Rf
end
section
namespace Rf
open PySem PySem.Spec PyProof.Rows PySem.W
section
variable {prog : Program} {w : World} {K : Type} [DecidableEq K] {knd : KeyKind prog w K} {A : Around} {E : Value → Shared → Prop} {s : Shared}
def ItS (h : Heap) (it d : Addr) (i n ep : Nat) : Prop := (∃ ok ov, IsItemIter h it d i n ep ok ov) ∨ ∃ a ok ov f, KdxIt h it d i n ep ok ov a f ∧ a ≠ it
end
open L2
section
variable {P : Program} {w : World} {K : PySem.W.Frag} {d : Addr} {o : Obj} {es : Array DictEntry} {ep : Nat}
end
section
variable {X : Cx} {W : WX} {ft : FT} {e l : Expr} {td : TE} {a : E} {apos cpos pos tpos : Pos} {x : Str}
end
end Rf
end
section
namespace Rf
open PySem L2
def stAd (K : Frg) (k m : Str) : Addr := match PySem.W.recIn K (He.ma K (He.ga K k) m) "staticmethod" with
  | some (.ref g :: _) => g
  | _ => 0
structure StM (K : Frg) (k m : Str) (g : Addr) : Prop where
  rd : PySem.W.readsIn K (He.ga K k) (.type "type") = true
  ga : PySem.W.specialIn K (.ref (He.ga K k)) "__getattribute__" = some (some (.builtin "type.__getattribute__"))
  at_ : ∃ p, PySem.W.findCls K (.ref (He.ga K k)) (.type "type") m = some (.get (.builtin "staticmethod.__get__") (.ref p) .none (.ref (He.ga K k))) ∧ ∃ rest, PySem.W.recIn K p "staticmethod" = some (.ref g :: rest)
  kp : PySem.W.keepIn K (.ref g) = true
def cfL : Option PySem.W.CFound → Option (List Value)
  | some (.get g a o t) => some [g, a, o, t]
  | _ => none
def stB (K : Frg) (k m : Str) : Bool := PySem.W.readsIn K (He.ga K k) (.type "type") && (He.eqO (PySem.W.specialIn K (.ref (He.ga K k)) "__getattribute__") (some (some (.builtin "type.__getattribute__"))) && (PySem.W.keepIn K (.ref (stAd K k m)) &&
  (decide (cfL (PySem.W.findCls K (.ref (He.ga K k)) (.type "type") m) = some [.builtin "staticmethod.__get__", .ref (He.ma K (He.ga K k) m), .none, .ref (He.ga K k)]) && decide ((PySem.W.recIn K (He.ma K (He.ga K k) m) "staticmethod").bind List.head? = some (.ref (stAd K k m))))))
section
variable {X : Cx} {W : WX} {ft : FT} {pos p apos : Pos} {l : Expr} {es : List Expr} {el : EL}
end
end Rf
end
section
namespace Rf
open PySem PySem.Spec PyProof.Rows L2
section
variable {P : Program} {w : World} {A : Around}
end
section
variable {X : Cx} {pins : List (Addr × Obj)} {σ : L2.St} {H : Hp}
def RdV (K : Frg) (H : Hp) (kvs : List (Key × V)) (xs : List PyData) : Prop := Paired (fun kv y => Dp K H kv.2 y ∧ SeqAt.shaped y = true ∧ y.depth ≤ 50) kvs xs
end
end Rf
end
section
namespace Rf
open PySem L2
structure Sc where
  N : List Str
  sc : Scope
  fn : Str → Bool
  lam : Bool
structure Tab where
  bts : List Str
  cons : List Str
  fns : List Str
  clss : List Str
  fls : List Str
  mths : List (Str × Str × Str)
  mks : List (Str × Str)
  dfl : Str → List D
  itc : List Str
  xc : List (Str × List Str)
  hds : List Str
  gns : List Str
  sts : List (Str × Str × Str)
  als : List (Str × Str)
  x0 : List Str
  xis : List (Str × Xq)
def Sc.kd (c : Sc) (x : Str) : Option NameKind := c.sc.names.lookup x
def Sc.gl (c : Sc) (x : Str) : Bool := decide (c.kd x = some .globalImplicit)
def Sc.vis (c : Sc) (x : Str) : Bool := decide (c.kd x = some .local) || decide (c.kd x = some .cell) || decide (c.kd x = some .free)
def Sc.loc (c : Sc) (x : Str) : Bool := decide (c.kd x = some .local) || decide (c.kd x = some .cell)
def Sc.tgn (c : Sc) (i : Nat) (x : Str) : Bool := decide (c.N[i]? = some x) && c.loc x && (c.fn x || decide (c.kd x = some .local))
def Sc.blk (c : Sc) (scope : Scope) : Sc := ⟨c.N, relS scope c.sc, fun x => scope.names.lookup x == some .cell, false⟩
def Sc.own (c : Sc) (is : List Nat) : List (Str × Nat) := is.map fun i => (c.N.getD i Str.empty, i)
def nodbg (x : Str) : Bool := !(x == ("__debug__" : Str))
def subB (is js : List Nat) : Bool := is.all fun i => js.contains i
def noSet : Expr → Bool
  | .Set _ _ _ => false
  | _ => true
def chN (c : Sc) : List Nat → List Expr → Bool
  | [], [] => true
  | i :: is, .Name x _ :: es => c.tgn i x && chN c is es
  | _, _ => false
def chTg (c : Sc) : Tg → Expr → Bool
  | .nm i, .Name x _ => c.tgn i x
  | .tp is, .Tuple es _ _ => chN c is es
  | _, _ => false
def chTy (T : Tab) (c : Sc) (t : Ty) (x : Str) : Bool := decide (tyN t = x) && c.gl x && match t with
  | .own k => T.clss.contains k && nodbg k
  | t => T.bts.contains (tyN t)
def chTys (T : Tab) (c : Sc) : List Ty → List Expr → Bool
  | [], [] => true
  | t :: ts, .Name x _ :: es => chTy T c t x && chTys T c ts es
  | _, _ => false
def nilE : Expr → Bool
  | .List es _ => es.isEmpty
  | _ => false
def chIsi (T : Tab) (c : Sc) (ts : List Ty) : Expr → Bool
  | .Name n _ => (match ts with | [ty] => chTy T c ty n | _ => false)
  | .Tuple es _ _ => chTys T c ts es && decide (ts.length ≤ 1000)
  | _ => false
def okIx : Expr → Bool
  | .Slice _ _ _ _ => false
  | _ => true
def bi1 (T : Tab) (c : Sc) (f : Str) : Bool := c.gl f && T.bts.contains f
def dotB (o : Expr) (apos pos : Pos) (es : List Expr) : Bool := noSup o && es.all plainE && decide (es.length < 30) && (apos.endLine == pos.line)
def lamArg : Expr → Option (Arguments × Expr × Scope)
  | .Lambda ps b s _ => some (ps, b, s)
  | _ => none
def plainB (a : Arguments) (ps : List Str) : Bool := a.posonlyargs.isEmpty && a.vararg.isNone && a.kwonlyargs.isEmpty && a.kwarg.isNone && decide (a.args.map (·.arg) = ps) && decide ps.Nodup
def lamB (c : Sc) (ps : Arguments) (scope : Scope) : Bool := plainB ps [] && ps.defaults.isEmpty && ps.kw_defaults.isEmpty && LamX.lamSB c.sc scope
def lamSc (c : Sc) (scope : Scope) : Sc := ⟨c.N, scope, fun _ => false, false⟩
mutual
def chE (T : Tab) (c : Sc) (t : Bool) : E → Expr → Bool
  | .nope, _ => !t
  | .var i, .Name x _ => decide (c.N[i]? = some x) && c.vis x && nodbg x && !(x == ("__classdict__" : Str))
  | .glo x, .Name y _ => decide (x = y) && T.cons.contains x && c.gl x && nodbg x
  | .non, .Constant k _ _ => match k with | .none => true | _ => false
  | .bl b, .Constant k _ _ => match k with | .bool b' => b == b' | _ => false
  | .int i, .Constant k _ _ => match k with | .int j => decide (i = j) | _ => false
  | .str s, .Constant k _ _ => match k with | .str s' => decide (s = s') | _ => false
  | .tup es, .Tuple xs _ _ => chL T c es xs
  | .lst es, .List xs _ => chL T c es xs
  | .newl es, .List xs _ => chL T c es xs
  | .newk, .Dict ks vs _ => ks.isEmpty && vs.isEmpty
  | .newb a, .Call (.Name g _) [x] [] _ => decide (g = "list") && bi1 T c "list" && plainE x && chE T c false a x
  | .emp neg a, .Compare l [op] [r] _ => !neg && decide (op = .Eq) && chE T c false a l && nilE r && !behindInMarks .Eq r
  | .dsp es, .Dict ks vs _ => chD T c es ks vs && !ks.isEmpty && decide (ks.length ≤ 15)
  | .lamc f e, .Call (.Name g _) [y] [] _ => decide (f = g) && T.hds.contains f && c.lam && c.gl f && nodbg f && (match lamArg y with | some (ps, b, s) => lamB c ps s && chE T (lamSc c s) false e b | none => false)
  | .op2 o a b, .BinOp l o' r _ => decide (o = o') && chE T c false a l && chE T c false b r
  | .neg a, .UnaryOp o x _ => decide (o = .USub) && chE T c false a x
  | .not a, .UnaryOp o x _ => decide (o = .Not) && chE T c t a x
  | .and es, .BoolOp o xs _ => decide (o = .And) && chB T c t es xs
  | .or es, .BoolOp o xs _ => decide (o = .Or) && chB T c t es xs
  | .ite q a b, .IfExp x y z _ => !t && chE T c true q x && chE T c false a y && chE T c false b z
  | .cmp o a b, .Compare l [o'] [r] _ => decide (o = o') && chE T c false a l && chE T c false b r && !behindInMarks o r
  | .isn a, .Compare l [o'] [.Constant .none _ _] _ => decide (o' = .Is) && chE T c false a l
  | .notn a, .Compare l [o'] [.Constant .none _ _] _ => decide (o' = .IsNot) && chE T c false a l
  | .idx a b, .Subscript l r _ => okIx r && chE T c false a l && chE T c false b r
  | .fld a f, .Attribute l g _ => decide (f = g) && noSup l && T.fls.contains f && chE T c false a l
  | .call f es j, .Call (.Name g _) xs [] _ => decide (f = g) && T.fns.contains f && decide (j ≤ (T.dfl f).length) && c.gl f && nodbg f && xs.all plainE && chL T c es xs
  | .call f es j, .Call (.Attribute (.Name k kp) m apos) xs [] pos => T.sts.contains (k, m, f) && decide (j ≤ (T.dfl f).length) && c.gl k && nodbg k && dotB (.Name k kp) apos pos xs && !xs.isEmpty && chL T c es xs
  | .mk k q es j, .Call (.Name g _) xs [] _ => decide (k = g) && T.mks.contains (k, q) && decide (j ≤ (T.dfl q).length) && c.gl k && nodbg k && xs.all plainE && chL T c es xs
  | .mcall a k m q es j, .Call (.Attribute o g apos) xs [] pos => decide (m = g) && T.mths.contains (k, m, q) && decide (j ≤ (T.dfl q).length) && dotB o apos pos xs && chE T c false a o && chL T c es xs
  | .bi f es, .Call (.Name g _) (x :: xs) [] _ => decide (f.name = g) && f.okA && bi1 T c f.name && (x :: xs).all plainE && chL T c es (x :: xs)
  | .meth a m es, .Call (.Attribute o g apos) xs [] pos => decide (m.name = g) && dotB o apos pos xs && chE T c false a o && chL T c es xs
  | .isi a ts, .Call (.Name g _) [x, y] [] _ => decide (g = "isinstance") && bi1 T c "isinstance" && plainE x && chE T c false a x && chIsi T c ts y
  | .lc own tg s q e, .ListComp elt [⟨tx, it, ifs, as⟩] scope _ => decide (as = 0) && blkC c.N c.sc scope (c.own own) && subB tg.all own && noSet it && chI T c s tx it && chTg (c.blk scope) tg tx && chC T (c.blk scope) q ifs && chE T (c.blk scope) false e elt
  | .newc own tg s q e, .ListComp elt [⟨tx, it, ifs, as⟩] scope _ => decide (as = 0) && blkC c.N c.sc scope (c.own own) && subB tg.all own && noSet it && chI T c s tx it && chTg (c.blk scope) tg tx && chC T (c.blk scope) q ifs && chE T (c.blk scope) false e elt
  | .exn k es, .Call (.Name g _) xs [] _ => decide (k = g) && (match T.xc.lookup k with | some fs => decide (fs.length = xs.length) | none => false) && c.gl k && nodbg k && xs.all plainE && chL T c es xs
  | .exnk k f e, .Call (.Name g _) [] [⟨some f', x, _⟩] _ => decide (k = g) && decide (f = f') && decide (T.xc.lookup k = some [f]) && c.gl k && nodbg k && chE T c false e x
  | .exn0 k, .Call (.Name g _) [] [] _ => decide (k = g) && T.x0.contains k && c.gl k && nodbg k
  | .xfl a f, .Attribute l g _ => decide (f = g) && noSup l && chE T c false a l
  | .isx a q k, .Call (.Name g _) [x, .Name y _] [] _ => decide (g = "isinstance") && bi1 T c "isinstance" && T.xis.contains (q, k) && decide (y = xqN k q) && c.gl (xqN k q) && plainE x && chE T c false a x
  | .frz a, x => !t && chE T c false a x
  | _, _ => false
def chL (T : Tab) (c : Sc) : EL → List Expr → Bool
  | .nil, [] => true
  | .cons e r, x :: xs => plainE x && chE T c false e x && chL T c r xs
  | _, _ => false
def chB (T : Tab) (c : Sc) (t : Bool) : EL → List Expr → Bool
  | .cons e .nil, [x] => chE T c t e x
  | .cons e r, x :: y :: xs => chE T c t e x && chB T c t r (y :: xs)
  | _, _ => false
def chO (T : Tab) (c : Sc) : EO → Option Expr → Bool
  | .none, none => true
  | .some e, some x => chE T c false e x
  | _, _ => false
def chD (T : Tab) (c : Sc) : EL → List (Option Expr) → List Expr → Bool
  | .nil, [], [] => true
  | .cons k (.cons v r), some x :: ks, y :: vs => chE T c false k x && chE T c false v y && chD T c r ks vs
  | _, _, _ => false
def chC (T : Tab) (c : Sc) : EO → List Expr → Bool
  | .none, [] => true
  | .some e, [x] => chE T c true e x
  | _, _ => false
def chI (T : Tab) (c : Sc) : Sr → Expr → Expr → Bool
  | .val e, _, x => chE T c false e x
  | .enum e, .Tuple _ _ _, .Call (.Name g _) [x] [] _ => decide (g = "enumerate") && bi1 T c "enumerate" && plainE x && chE T c false e x
  | .zip a b, .Tuple _ _ _, .Call (.Name g _) [x, y] [] _ => decide (g = "zip") && bi1 T c "zip" && plainE x && plainE y && chE T c false a x && chE T c false b y
  | .rng a, _, .Call (.Name g _) [x] [] _ => decide (g = "range") && bi1 T c "range" && plainE x && chE T c false a x
  | _, _, _ => false
end
structure Ok (X : Cx) (W : WX) (ft : FT) (T : Tab) (c : Sc) : Prop where
  N : X.N = c.N
  nd : X.N.Nodup
  sc : X.env.scope = c.sc
  fn : ∀ x, X.fn x = c.fn x
  kind : c.sc.kind = .function
  calm : X.calm = true
  tk : Takes X W
  own : PassesOwn (model X.prog X.w) X.A X.env X.xe
  un : X.A.units + 64 < cLine
  dfl : ft.dfl = T.dfl
  bts : ∀ x, T.bts.contains x = true → X.mg x = none
  cons : ∀ x, T.cons.contains x = true → ∃ d v u, X.mg x = some u ∧ RelV v u ∧ ft.con x = some d ∧ ∀ G μ n, Rep X.K G μ n d v
  fns : ∀ f, T.fns.contains f = true → ∃ ad g, ft.fn f = some g ∧ FnK X (ft.dfl f) ad g ∧ X.mg f = some (.ref ad)
  als : ∀ f q, T.als.contains (f, q) = true → T.fns.contains f = true → ∃ ad g, ft.fn q = some g ∧ FnK X (ft.dfl q) ad g ∧ X.mg f = some (.ref ad)
  mks : ∀ k q, T.mks.contains (k, q) = true → ∃ ad g, ft.fn q = some g ∧ FnK X (ft.dfl q) ad g ∧ Mk X.K (He.ga X.K k) ad ∧ X.mg k = some (.ref (He.ga X.K k))
  mths : ∀ k m q, T.mths.contains (k, m, q) = true → ∃ ad g, ft.fn q = some g ∧ FnK X (ft.dfl q) ad g ∧ Cls X.K (He.ga X.K k) ∧ Meth X.K (He.ga X.K k) m ad ∧ PySem.W.fnIn X.K ad = true ∧ PySem.W.selfFirst X.K (He.ga X.K k) = true ∧ (m = "__eq__" → EqCls X.K (He.ga X.K k))
  lst : ∀ op, noList op = true → NoOp X.K op "list" ∧ NoOp X.K op "tuple"
  clss : ∀ k, T.clss.contains k = true → X.mg k = some (.ref (He.ga X.K k))
  fls : ∀ f, T.fls.contains f = true → ∀ k, (ft.flds k).contains f = true → Cls X.K (He.ga X.K k) ∧ NoAttr X.K (He.ga X.K k) f
  isi : IsiOk X.K ft.cls
  itc : ∀ k, T.itc.contains k = true → ∃ g n fi fl fdI fdL psI psL, ft.its k = some g ∧ InsIt X (He.ga X.K k) g n fi fl fdI fdL psI psL
  xf : ft.xf = fun q => T.xc.lookup q
  xcs : ∀ q fs, T.xc.lookup q = some fs → XCl X q fs ∧ X.mg q = some (.ref (He.ga X.K q)) ∧ XfC X.K (He.ga X.K q) ∧ ∀ f ∈ fs, PySem.W.findIn X.K (.ref (He.ga X.K q)) f = some none
  xmt : ∀ q q', (T.xc.lookup q).isSome = true → (T.xc.lookup q').isSome = true → PySem.W.exmOne X.K (.ref (He.ga X.K q)) (.ref (He.ga X.K q')) = some (decide (q = q'))
  lamc : c.lam = true → ∀ f, T.hds.contains f = true → ∀ (p lpos pos : Pos) (ps : Arguments) (b : Expr) (s : Scope) (e : E), lamB c ps s = true → c.gl f = true → nodbg f = true → chE T (lamSc c s) false e b = true → PE X (.Call (.Name f p) [.Lambda ps b s lpos] [] pos) (TEv X.K W ft (.lamc f e))
  gns : ∀ f, T.gns.contains f = true → ∃ ad g, ft.fn f = some g ∧ GnK X ad g ∧ X.mg f = some (.ref ad)
  sts : ∀ k m q, T.sts.contains (k, m, q) = true → ∃ ad g, ft.fn q = some g ∧ FnK X (ft.dfl q) ad g ∧ StM X.K k m ad ∧ X.mg k = some (.ref (He.ga X.K k))
  x0s : ∀ q, T.x0.contains q = true → ft.x0.contains q = true ∧ X.mg q = some (.ref (He.ga X.K q)) ∧ X0F X.K (He.ga X.K q)
  xis : ∀ q k, T.xis.contains (q, k) = true → IsXF X.K X.mg ft q k
section
variable {X : Cx} {W : WX} {ft : FT} {T : Tab} {c : Sc}
def Sc.noLam (c : Sc) : Sc := ⟨c.N, c.sc, c.fn, false⟩
end
end Rf
end
section
namespace Rf
open PySem L2
def Gd (X : Cx) (W : WX) (ft : FT) (t : Bool) (e : E) (x : Expr) : Prop := match t with
  | false => PE X x (TEv X.K W ft e)
  | true => PT X x (TTv X.K W ft e)
def valE : Expr → Bool
  | .UnaryOp o _ _ => decide (o ≠ .Not)
  | .BoolOp _ _ _ => false
  | .IfExp _ _ _ _ => false
  | .Compare _ _ _ _ => false
  | _ => true
section
variable {X : Cx} {W : WX} {ft : FT} {T : Tab} {c : Sc}
def GdB (X : Cx) (W : WX) (ft : FT) (t : Bool) (es : EL) (xs : List Expr) : Prop := ∀ pos, match t with
  | false => PE X (.BoolOp .And xs pos) (TG_ X.K W (evAnd ft es)) ∧ PE X (.BoolOp .Or xs pos) (TG_ X.K W (evOr ft es))
  | true => PW X (.BoolOp .And xs pos) (TB_ X.K W (evAnd ft es)) ∧ PW X (.BoolOp .Or xs pos) (TB_ X.K W (evOr ft es))
end
end Rf
end
section
namespace Rf
open PySem L2
def compOf : Expr → Option (Scope × Pos)
  | .ListComp _ _ s p => some (s, p)
  | .SetComp _ _ s p => some (s, p)
  | .DictComp _ _ _ s p => some (s, p)
  | _ => none
def swW (c : Sc) (value : Expr) (target : Expr) : Bool := match compOf value with
  | none => false
  | some (s, p) => match target with
    | .Name t q => decide (c.kd t = some .local) && (q.line == p.line) && !(s.names.any fun (n, k) => n == t && (k == .local || k == .cell))
    | _ => false
def starB : Expr → Bool
  | .Starred _ _ => true
  | _ => false
def nmB (c : Sc) (line : Nat) : Expr → Option Str
  | .Name id pos => if c.kd id == some .local && pos.line == line then some id else none
  | _ => none
def swS (c : Sc) (tg value : Expr) : Option (Option (List Str)) := match tg with
  | .Tuple ts _ _ => match value with
    | .Tuple vs _ _ =>
      if (!(ts.length == 2 || ts.length == 3) || vs.length != ts.length) = true then some none else
      if (vs.any starB) = true then some none else
      let names := ts.filterMap (nmB c ((ts.head?.map (·.pos.line)).getD 0))
      if (names.length != ts.length || names.eraseDups.length != names.length) = true then some none else
      if (vs.all (foldedForSure 8)) = true then some none else
      if (vs.all (constantsAlone 8)) = true then none else some (some names)
    | _ => some none
  | .List _ _ => none
  | _ => some none
def lcB : E → Bool
  | .lc _ _ _ _ _ => true
  | .newc _ _ _ _ _ => true
  | _ => false
def nmO : Expr → Option Str
  | .Name x _ => some x
  | _ => none
def nlB (c : Sc) : Expr → Bool
  | .Name x _ => decide (c.kd x = some .local)
  | _ => false
section
variable {X : Cx} {W : WX} {ft : FT} {T : Tab} {c : Sc}
end
def chCon : E → Expr → Bool
  | .non, .Constant k _ _ => match k with | .none => true | _ => false
  | .bl b, .Constant k _ _ => match k with | .bool b' => b == b' | _ => false
  | .int i, .Constant k _ _ => match k with | .int j => decide (i = j) | _ => false
  | .str s, .Constant k _ _ => match k with | .str s' => decide (s = s') | _ => false
  | .tup es, .Tuple [.Constant k _ _] _ _ => match es with
    | .cons (.str s) .nil => (match k with | .str s' => decide (s = s') | _ => false)
    | _ => false
  | _, _ => false
def fldB (T : Tab) (q f : Str) : Bool := match T.xc.lookup q with
  | some fs => fs.contains f
  | none => false
def asB (c : Sc) (as : Option Nat) (n : Str) : Bool := match as with
  | some i => decide (c.N[i]? = some n) && c.vis n && nodbg n && !(n == ("__classdict__" : Str))
  | none => false
def chV (T : Tab) (c : Sc) (as : Option Nat) (q : Str) : HV → Expr → Bool
  | .tag s f, .Tuple [.Constant k _ _, .Attribute (.Name n _) g _] _ _ => (match k with | .str s' => decide (s = s') | _ => false) && decide (f = g) && asB c as n && fldB T q f
  | .fld f, .Attribute (.Name n _) g _ => decide (f = g) && asB c as n && fldB T q f
  | .con (.emp neg (.idx (.var i) (.var j))), .Compare (.Subscript (.Name x _) (.Name y _) _) [op] [r] _ => !neg && decide (op = .Eq) && chE T c false (.var i) (.Name x ⟨0, 0, 0, 0⟩) && chE T c false (.var j) (.Name y ⟨0, 0, 0, 0⟩) && nilE r && !behindInMarks .Eq r
  | .con e, x => chCon e x
  | _, _ => false
def chA (T : Tab) (c : Sc) (as : Option Nat) (q : Str) : HA → List Stmt → Bool
  | .set j v, [.Assign [.Name y _] l _] => decide (c.N[j]? = some y) && decide (c.kd y = some .local) && decide (as ≠ some j) && (compOf l).isNone && chV T c as q v l
  | .ret v, [.Return (some l) _] => chV T c as q v l
  | _, _ => false
def chN1 (c : Sc) (as : Option Nat) : Option Str → Bool
  | none => as.isNone
  | some n => match as with
    | some i => decide (c.N[i]? = some n) && decide (c.kd n = some .local)
    | none => false
def chH (T : Tab) (c : Sc) (h : Hd) : ExceptHandler → Bool
  | .ExceptHandler (some (.Name x _)) nm ss _ => decide (h.c = x) && c.gl h.c && nodbg h.c && (T.xc.lookup h.c).isSome && chN1 c h.as nm && chA T c h.as h.c h.act ss
  | _ => false
def chHs (T : Tab) (c : Sc) : List Hd → List ExceptHandler → Bool
  | [], [] => true
  | h :: hs, x :: xs => chH T c h x && chHs T c hs xs
  | _, _ => false
mutual
def chS (T : Tab) (c : Sc) : S → Stmt → Bool
  | .nope, _ => true
  | .fz _ s, x => chS T c s x
  | .pass, .Pass _ => true
  | .pass, .Expr (.Constant (.str _) _ _) _ => true
  | .brk, .Break _ => true
  | .cnt, .Continue _ => true
  | .retN, .Return none _ => true
  | .ret e, .Return (some x) _ => chE T c false e x
  | .expr e, .Expr x _ => (compOf x).isNone && chE T c false e x
  | .asg t e, .Assign [tx] x _ => chTg c t tx && chE T c false e x && ((!swW c x tx && decide (swS c tx x = some none)) || (swW c x tx && lcB e))
  | .par is es, .Assign [.Tuple ts k p] (.Tuple xs k2 p2) _ => chN c is ts && chL T c es xs && decide (is.Nodup) && decide (swS c (.Tuple ts k p) (.Tuple xs k2 p2) = some (some (ts.filterMap nmO))) && (ts.all (nlB c)) && decide (is.length = xs.length) && (decide (is.length = 2) || decide (is.length = 3))
  | .iset a b e, .Assign [.Subscript l r _] x _ => chE T c false a l && chE T c false b r && chE T c false e x
  | .ife q s1 s2, .If x u1 u2 _ => chE T c true q x && chSL T c s1 u1 && chSL T c s2 u2
  | .for t s b, .For tx it body [] _ => chTg c t tx && noSet it && chI T c s tx it && chSL T c b body
  | .tr b hs, .Try body hds [] [] _ => !hds.isEmpty && chHs T c hs hds && chSL T c.noLam b body
  | _, _ => false
def chSL (T : Tab) (c : Sc) : SL → List Stmt → Bool
  | .nil, [] => true
  | .cons s r, x :: xs => chS T c s x && chSL T c r xs
  | _, _ => false
end
end Rf
end
section
namespace Rf
open PySem L2
section
variable {X : Cx} {W : WX} {ft : FT} {T : Tab} {c : Sc}
end
section
variable {X : Cx} {W : WX} {ft : FT} {T : Tab} {c : Sc}
def Stk (X : Cx) : Prop := X.stack = X.env :: X.outer ∧ X.env.frame = some X.env.locals
end
end Rf
end
section
namespace Rf
open PySem L2 PyProof.Rows
def oexB (K : Frg) (C : Addr) : Bool := (match K.lookup C with
  | some ⟨.type "type", _, .cls cd, sl⟩ => (match cd.mro, sl.toList with
    | .ref C' :: bm, [_, _, _, _, some (.builtin n), _] => C' == C && n == "ValueError.__new__" && !cd.hasDel && cd.hasDict && PySem.HandSPX.refsVE bm
    | _, _ => false)
  | _ => false) && He.eqO (PySem.W.findIn K (.ref C) "__setattr__") (some (some (.builtin "object.__setattr__"))) && decide (PySem.W.subIn K (.ref C) (.type "BaseException") = some true) && decide (PySem.W.typeIn K (.ref C) = some (.type "type")) && PySem.W.keepIn K (.ref C)
def fileIn (K : Frg) (c : Addr) : Option Str := match K.lookup c with
  | some ⟨_, _, .fields vs, _⟩ => (match (vs[2]? : Option Value) with
    | some (.str f _) => some f
    | _ => none)
  | _ => none
def cellB (K : Frg) (cc C : Addr) : Bool := match K.lookup cc with
  | some ⟨_, _, .cell (some (.ref D)), _⟩ => D == C
  | _ => false
def bodyX (K : Frg) (C : Addr) (g : Option Str) (b : List Stmt) : Bool := match b with
  | .Expr (.Call (.Attribute (.Call (.Name s _) [] [] _) m p2) [.Constant (.str _) _ _] [] p3) _ :: rest => decide (s = "super") && decide (m = "__init__") && (p2.endLine == p3.line) && (match g with
    | none => rest.isEmpty
    | some f => (match rest with
      | [.Assign [.Attribute (.Name x _) f' _] (.Name y _) _] => decide (x = "self") && decide (f' = f) && decide (y = f) && He.eqO (PySem.W.findIn K (.ref C) f) (some none) && !(f == ("__debug__" : Str)) && !(f == ("__classdict__" : Str))
      | _ => false))
  | _ => false
def initB (K : Frg) (C : Addr) (file : Str) (g : Option Str) (fd : FuncData) : Bool := decide (fd.name = "__init__") && (match fd.body with
  | .stmts b => (match fd.closure with
    | [(n, cc)] => decide (n = "__class__") && cellB K cc C && (match fd.code with
      | .ref c => PySem.W.codeIn K (.ref c) fd.qualname && decide (fileIn K c = some file)
      | _ => false) && bodyX K C g b
    | _ => false)
  | _ => false) && decide (fd.defaults = .none) && decide (fd.kwdefaults = .none) && decide (fd.globals = mainGlobals) && decide (fd.builtins = builtinsNs) && plainB fd.params (("self" : Str) :: g.toList) &&
  NdefX.nscB (("self" : Str) :: g.toList ++ [("__class__" : Str)]) (("self" : Str) :: g.toList) [("__class__" : Str)] fd.scope && decide (fd.scope.names.lookup ("super" : Str) = some .globalImplicit)
def xinB (K : Frg) (file : Str) (C : Addr) (g : Option Str) : Bool := oexB K C && (match PySem.W.findIn K (.ref C) "__init__" with
  | some (some (.ref fI)) => decide (PySem.W.typeIn K (.ref fI) = some (.type "function")) && (match K.lookup fI with
    | some ⟨_, _, .func fd, _⟩ => initB K C file g fd
    | _ => false)
  | _ => false) && decide (PySem.W.ks_superIn K C C "__init__" = some (some (.builtin "ValueError.__init__"))) && He.eqO (PySem.W.nsIn K cStatics "thirdparty.any") (some none) && decide (PySem.W.mroIn K C (.ref C) = some true) && decide (PySem.W.subIn K (.ref C) (.type "ValueError") = some true)
def lamDB (K : Frg) (at_ : Str × Option Str) (qual : Str) : Bool := match K.lookup (He.fAd K at_) with
  | some ⟨_, _, .func fd, _⟩ => (match fd.code with
    | .ref c => PySem.W.codeHdIn K c (He.tabOf K c) && decide (fd.qualname = qual) && (csOf K).all fun p => !(p.2.1 == He.tabOf K c) || decide (p.2.2 = qual ++ ".<locals>." ++ "<lambda>")
    | _ => false)
  | _ => false
def tabsK (g : Addr → Option Obj) (K : Frg) : Bool := (csOf K).all fun p => match g p.2.1 with
  | some o => He.emptyTab o
  | none => false
end Rf
end
section
namespace Rf
open PySem L2 PyProof.Rows
structure KpF (K : Frg) (xf : Str → Option (List Str)) : Prop where
  T : ∀ c, (xf c).isSome = true → XfC K (He.ga K c)
  S : ∀ c, (xf c).isSome = true → IsC K (He.ga K c)
  one : ∀ c c', (xf c).isSome = true → (xf c').isSome = true → PySem.W.exmOne K (.ref (He.ga K c)) (.ref (He.ga K c')) = some (decide (c = c'))
section
variable {X : Cx}
structure KpT (N : List Str) (sc : Scope) (k : KeepE) (hk : ExceptHandler) (rest : List Stmt) : Prop where
  ex : ∃ (a1 a2 a3 a4 y e : Str) (p1 p2 p3 p4 tpos py pn pa pos : Pos) (kk k1 k2 k3 k4 k5 k6 k7 k8 k9 : Nat) (p : Nat → Pos), k.cs = [a1, a2, a3, a4] ∧ N[k.e]? = some e ∧ sc.names.lookup e = some .local ∧ N[k.y]? = some y ∧ sc.names.lookup y = some .local ∧ k.y ≠ k.e ∧
    (e == ("__debug__" : Str)) = false ∧ (e == ("__classdict__" : Str)) = false ∧ (y == ("__debug__" : Str)) = false ∧ (y == ("__classdict__" : Str)) = false ∧
    hk = .ExceptHandler (some (.Tuple [.Name a1 p1, .Name a2 p2, .Name a3 p3, .Name a4 p4] kk tpos)) (some e) [.Assign [.Name y py] (.Name e pn) pa] pos ∧
    (∀ c ∈ [k.k1, k.k2, k.k3, a1, a2, a3, a4], (c == ("__debug__" : Str)) = false) ∧
    rest = [.If (.Compare (.Name y (p 0)) [.Is] [.Constant .none k1 (p 1)] (p 2)) [.Return (some (.Constant .none k2 (p 3))) (p 4)] [] (p 5),
      .If (.Call (.Name "isinstance" (p 6)) [.Name y (p 7), .Name k.k1 (p 8)] [] (p 9)) [.Return (some (.Tuple [.Constant (.str k.s1) k3 (p 10), .Attribute (.Name y (p 11)) k.f (p 12)] k4 (p 13))) (p 14)] [] (p 15),
      .If (.Call (.Name "isinstance" (p 16)) [.Name y (p 17), .Name k.k2 (p 18)] [] (p 19)) [.Return (some (.Tuple [.Constant (.str k.s2) k5 (p 20), .Attribute (.Name y (p 21)) k.f (p 22)] k6 (p 23))) (p 24)] [] (p 25),
      .Return (some (.Tuple [.IfExp (.Call (.Name "isinstance" (p 26)) [.Name y (p 27), .Name k.k3 (p 28)] [] (p 29)) (.Constant (.str k.s3) k7 (p 30)) (.Constant (.str k.s4) k8 (p 31)) (p 32), .Attribute (.Name y (p 33)) k.f (p 34)] k9 (p 35))) (p 36)]
structure KpX (X : Cx) (xf : Str → Option (List Str)) (k : KeepE) : Prop where
  F : KpF X.K xf
  fld : ∀ c ∈ k.cs, (xf c).isSome = true ∧ PySem.W.findIn X.K (.ref (He.ga X.K c)) k.f = some none
  ks : (xf k.k1).isSome = true ∧ (xf k.k2).isSome = true ∧ (xf k.k3).isSome = true
  gl : ∀ c ∈ [k.k1, k.k2, k.k3] ++ k.cs, Gl X c ∧ X.mg c = some (.ref (He.ga X.K c))
  gi : Gl X "isinstance"
  mi : X.mg "isinstance" = none
end
variable {X : Cx}
end Rf
end
section
namespace Rf
open PySem L2
def PostG (K : Frg) (H : Hp) (μ : Mu) (Ω : Sto) (r : R (Env × List D)) (D : GEnds) : Prop := match r with
  | .ok p Ω' => ∀ σ' H' μ' vs, Ext K H μ Ω H' μ' Ω' → REnv K (Fz H' μ' Ω') μ' Ω'.length p.1 σ' → Reps K (Fz H' μ' Ω') μ' Ω'.length p.2 vs → D.nx vs σ' H'
  | _ => False
def TYv (K : Frg) (ft : FT) (g : GL) : TGn := fun D ys σ H => ∃ μ Ω ρ ds, At K σ H μ Ω ρ ∧ Reps K (Fz H μ Ω) μ Ω.length ds ys ∧ PostG K H μ Ω (exG ft g ρ Ω ds) D
def chGL (T : Tab) (c : Sc) : GL → List Stmt → Bool
  | .nil, [] => true
  | .pl s r, st :: ts => chS T c s st && chGL T c r ts
  | .yd e r, .Expr (.Yield (some y) _) _ :: ts => chE T c false e y && chGL T c r ts
  | .wh q b r, .While x body [] _ :: ts => chE T c true q x && chGL T c b body && chGL T c r ts
  | _, _ => false
end Rf
end
section
namespace Rf
open PySem L2
structure Df where
  q : Str
  ps : List Str
  N : List Str
  sl : SL
  dfl : List D
  dd : He.DefD
  /-- lambdas stand within -/
  lam : Bool
  /-- a static method -/
  st : Bool
structure Hf where
  q : Str
  a : Str
  N : List Str
  h : HD
  dd : He.DefD
structure Gf where
  q : Str
  ps : List Str
  N : List Str
  gl : GL
  dd : He.DefD
structure ItDef where
  k : Str
  g : Str
  x : Str
  di : He.DefD
  dl : He.DefD
def Df.ad (K : Frg) (df : Df) : Addr := match df.st with
  | true => stAd K df.dd.at_.1 (df.dd.at_.2.getD "")
  | false => He.fAd K df.dd.at_
structure Law where
  defs : List Df
  cn : List (Str × D)
  fl : List (Str × List Str)
  cls : List Str
  itd : List ItDef
  xc : List (Str × List Str)
  hds : List Hf
  gens : List Gf
  file : Str
  T : Tab
def Law.x0 (L : Law) : List Str := L.T.x0
def Law.con (L : Law) (x : Str) : Option D := L.cn.lookup x
def Law.flds (L : Law) (k : Str) : List Str := (L.fl.lookup k).getD []
def Law.itsF (L : Law) (k : Str) : Option Str := (L.itd.find? fun i => i.k == k).map (·.g)
def Law.find (L : Law) (q : Str) : Option Df := L.defs.find? fun d => d.q == q
def Law.dflOf (L : Law) (q : Str) : List D := match L.find q with
  | some d => d.dfl
  | none => []
def Law.xfO (L : Law) (c : Str) : Option (List Str) := L.xc.lookup c
def Law.findH (L : Law) (q : Str) : Option Hf := L.hds.find? fun d => d.q == q
def Law.findG (L : Law) (q : Str) : Option Gf := L.gens.find? fun d => d.q == q
def Law.ft (L : Law) : Nat → FT
  | 0 => ⟨fun q => (match L.find q with | some _ => some fun _ _ => .bad | none => (L.findG q).map fun _ => fun _ _ => .bad), L.dflOf, L.con, L.flds, L.cls, L.itsF, L.xfO, fun _ => none, L.T.x0⟩
  | d + 1 => ⟨fun q => (match L.find q with | some df => some (runD (L.ft d) df.ps.length df.N.length df.sl) | none => (L.findG q).map fun gf => runG (L.ft d) gf.ps.length gf.N.length gf.gl), L.dflOf, L.con, L.flds, L.cls, L.itsF, L.xfO, fun q => (L.findH q).map fun hf => fun e ρ Ω => runH (L.ft d) hf.N.length hf.h (evE (L.ft d) e ρ Ω) Ω, L.T.x0⟩
def Law.g (L : Law) (d : Nat) (df : Df) : List D → Sto → R D := match d with
  | 0 => fun _ _ => .bad
  | d + 1 => runD (L.ft d) df.ps.length df.N.length df.sl
def Law.gG (L : Law) (d : Nat) (gf : Gf) : List D → Sto → R D := match d with
  | 0 => fun _ _ => .bad
  | d + 1 => runG (L.ft d) gf.ps.length gf.N.length gf.gl
def scopeB (N ps : List Str) (sc : Scope) : Bool := decide (sc.kind = .function) && !sc.isCoroutine && !sc.isGenerator && decide N.Nodup && decide (N.take ps.length = ps) && (ps.all fun x => decide (sc.names.lookup x = some .local) || decide (sc.names.lookup x = some .cell)) && sc.names.all fun y => decide (y.2 ≠ .free)
def scopeGB (N ps : List Str) (sc : Scope) : Bool := decide (sc.kind = .function) && !sc.isCoroutine && sc.isGenerator && decide N.Nodup && decide (N.take ps.length = ps) && (ps.all fun x => decide (sc.names.lookup x = some .local) || decide (sc.names.lookup x = some .cell)) && sc.names.all fun y => decide (y.2 ≠ .free)
def Gf.ok (T : Tab) (gf : Gf) : Bool := scopeGB gf.N gf.ps gf.dd.scope && chGL T ⟨gf.N, gf.dd.scope, fun _ => true, false⟩ gf.gl gf.dd.body && plainB gf.dd.params gf.ps && gf.dd.dfl.isEmpty
def Df.ok (T : Tab) (df : Df) : Bool := scopeB df.N df.ps df.dd.scope && chSL T ⟨df.N, df.dd.scope, fun _ => true, df.lam⟩ df.sl df.dd.body
def chPre (c : Sc) : Option Nat → List Stmt → Option (List Stmt)
  | none, b => some b
  | some i, .Assign [.Name y _] (.Constant k _ _) _ :: b => (match k with
    | .none => if (decide (c.N[i]? = some y) && decide (c.kd y = some .local) && decide (0 < i)) = true then some b else none
    | _ => none)
  | _, _ => none
def isAsk (a : Str) : Expr → Bool
  | .Call (.Name x _) [] [] _ => decide (x = a)
  | _ => false
def isStr (s : Str) : Expr → Bool
  | .Constant k _ _ => (match k with | .str s' => decide (s = s') | _ => false)
  | _ => false
def chFm (c : Sc) (a : Str) : Fm → Stmt → Bool
  | .expr, .Expr e _ => isAsk a e
  | .ret s, .Return (some (.Tuple [k, e] _ _)) _ => isStr s k && isAsk a e
  | .set i s, .Assign [.Name y _] (.Tuple [k, e] _ _) _ => isStr s k && isAsk a e && decide (c.N[i]? = some y) && decide (c.kd y = some .local) && decide (0 < i)
  | _, _ => false
def isVarE (y : Str) : Expr → Bool
  | .Name x _ => decide (x = y)
  | _ => false
def isNon : Expr → Bool
  | .Constant k _ _ => (match k with | .none => true | _ => false)
  | _ => false
def isTagF (s y f : Str) : Expr → Bool
  | .Tuple [k, .Attribute x g _] _ _ => isStr s k && isVarE y x && decide (g = f)
  | _ => false
def isIs (y k : Str) : Expr → Bool
  | .Call (.Name i _) [x, c] [] _ => decide (i = "isinstance") && isVarE y x && isVarE k c
  | _ => false
def chKpH (c : Sc) (k : KeepE) : ExceptHandler → Option Str
  | .ExceptHandler (some (.Tuple [a1, a2, a3, a4] _ _)) (some e) [.Assign [.Name y _] v _] _ => (match k.cs with
    | [b1, b2, b3, b4] => if isVarE b1 a1 && isVarE b2 a2 && isVarE b3 a3 && isVarE b4 a4 && isVarE e v && decide (c.N[k.e]? = some e) && decide (c.kd e = some .local) && decide (c.N[k.y]? = some y) && decide (c.kd y = some .local) && decide (k.y ≠ k.e) && nodbg e && nodbg y && !(e == ("__classdict__" : Str)) && !(y == ("__classdict__" : Str)) then some y else none
    | _ => none)
  | _ => none
def chKpR (k : KeepE) (y : Str) : List Stmt → Bool
  | [.If (.Compare x [.Is] [n] _) [.Return (some r0) _] [] _, .If t1 [.Return (some r1) _] [] _, .If t2 [.Return (some r2) _] [] _, .Return (some (.Tuple [.IfExp t3 u3 u4 _, .Attribute z g _] _ _)) _] =>
    isVarE y x && isNon n && isNon r0 && isIs y k.k1 t1 && isTagF k.s1 y k.f r1 && isIs y k.k2 t2 && isTagF k.s2 y k.f r2 && isIs y k.k3 t3 && isStr k.s3 u3 && isStr k.s4 u4 && isVarE y z && decide (g = k.f)
  | _ => false
def chKp (T : Tab) (c : Sc) (k : KeepE) (hk : ExceptHandler) (rest : List Stmt) : Bool := match chKpH c k hk with
  | some y => chKpR k y rest && (([k.k1, k.k2, k.k3] ++ k.cs).all fun q => nodbg q && c.gl q && (T.xc.lookup q).isSome) && (k.cs.all fun q => fldB T q k.f) && c.gl "isinstance" && T.bts.contains "isinstance"
  | none => false
def isExprF : Fm → Bool
  | .expr => true
  | _ => false
def chHf (T : Tab) (c : Sc) (a : Str) (h : HD) (b : List Stmt) : Bool := match chPre c h.pre b with
  | some (.Try [st] (h0 :: hds) [] [] _ :: post) => chFm c a h.fm st && (match h.kp with
    | none => chHs T c h.hs (h0 :: hds)
    | some k => isExprF h.fm && chKp T c k h0 post && chHs T c h.hs hds) && chSL T c h.post post
  | _ => false
def Hf.sc (hf : Hf) : Sc := ⟨hf.N, hf.dd.scope, fun _ => true, false⟩
def Hf.ok (T : Tab) (hf : Hf) : Bool := scopeB hf.N [hf.a] hf.dd.scope && !(hf.a == ("__debug__" : Str)) && !(hf.a == ("__classdict__" : Str)) && !(hf.q == ("__debug__" : Str)) && decide (hf.dd.name = hf.q) && decide (hf.dd.qual = hf.q) && plainB hf.dd.params [hf.a] && hf.dd.dfl.isEmpty && chHf T hf.sc hf.a hf.h hf.dd.body
def bodyB (b : List Stmt) (f x g : Str) : Bool := match b with
  | [.Return (some (.Call (.Name f' _) [.Attribute (.Name y _) h _] [] _)) _] => decide (f' = f) && decide (y = x) && decide (h = g)
  | _ => false
def defB (d : He.DefD) (f x g : Str) : Bool := scopeB [x] [x] d.scope && bodyB d.body f x g && decide (d.scope.names.lookup f = some .globalImplicit) && plainB d.params [x] && !(x == ("__debug__" : Str)) && !(x == ("__classdict__" : Str))
def ItDef.ok (i : ItDef) : Bool := defB i.di "iter" i.x i.g && defB i.dl "len" i.x i.g && decide (i.di.at_ = (i.k, some ("__iter__" : Str))) && decide (i.dl.at_ = (i.k, some ("__len__" : Str)))
structure ItFact (K : Frg) (mg : Str → Option Value) (i : ItDef) : Prop where
  it : PySem.W.findIn K (.ref (He.ga K i.k)) "__iter__" = some (some (.ref (He.fAd K i.di.at_)))
  itF : PySem.W.isFn K (.ref (He.fAd K i.di.at_)) = true
  ln : PySem.W.findIn K (.ref (He.ga K i.k)) "__len__" = some (some (.ref (He.fAd K i.dl.at_)))
  lnF : PySem.W.isFn K (.ref (He.fAd K i.dl.at_)) = true
  FI : ∃ fd, FunD K i.di.name i.di.qual i.di.params i.di.body i.di.scope (i.di.dvs K) (i.di.kws K) (He.fAd K i.di.at_) fd ∧ Binds K fd [i.x] []
  FL : ∃ fd, FunD K i.dl.name i.dl.qual i.dl.params i.dl.body i.dl.scope (i.dl.dvs K) (i.dl.kws K) (He.fAd K i.dl.at_) fd ∧ Binds K fd [i.x] []
  cl : Cls K (He.ga K i.k)
  na : NoAttr K (He.ga K i.k) i.g
  mi : mg "iter" = none
  ml : mg "len" = none
  ok : i.ok = true
structure Facts (P : Program) (L : Law) (K : Frg) (mg : Str → Option Value) : Prop where
  dfl : L.T.dfl = L.dflOf
  defs : ∀ df, df ∈ L.defs → ∃ fd, FunD K df.dd.name df.dd.qual df.dd.params df.dd.body df.dd.scope (df.dd.dvs K) (df.dd.kws K) (df.ad K) fd ∧ ∀ j, j ≤ df.dfl.length → Dfl K fd df.ps df.dfl j
  bts : ∀ x, L.T.bts.contains x = true → mg x = none
  cons : ∀ x, L.T.cons.contains x = true → ∃ d v u, mg x = some u ∧ RelV v u ∧ L.con x = some d ∧ ∀ G μ n, Rep K G μ n d v
  fns : ∀ f, L.T.fns.contains f = true → ∃ df, L.find f = some df ∧ mg f = some (.ref (df.ad K))
  als : ∀ f q, L.T.als.contains (f, q) = true → L.T.fns.contains f = true → ∃ df, L.find q = some df ∧ mg f = some (.ref (df.ad K))
  mks : ∀ k q, L.T.mks.contains (k, q) = true → ∃ df, L.find q = some df ∧ Mk K (He.ga K k) (df.ad K) ∧ mg k = some (.ref (He.ga K k))
  mths : ∀ k m q, L.T.mths.contains (k, m, q) = true → ∃ df, L.find q = some df ∧ Cls K (He.ga K k) ∧ Meth K (He.ga K k) m (df.ad K) ∧ PySem.W.fnIn K (df.ad K) = true ∧ PySem.W.selfFirst K (He.ga K k) = true ∧ (m = "__eq__" → EqCls K (He.ga K k))
  lst : ∀ op, noList op = true → NoOp K op "list" ∧ NoOp K op "tuple"
  clss : ∀ k, L.T.clss.contains k = true → mg k = some (.ref (He.ga K k))
  fls : ∀ f, L.T.fls.contains f = true → ∀ k, (L.flds k).contains f = true → Cls K (He.ga K k) ∧ NoAttr K (He.ga K k) f
  isi : IsiOk K L.cls
  itc : ∀ k, L.T.itc.contains k = true → ∃ i, (L.itd.find? fun i => i.k == k) = some i ∧ ItFact K mg i
  sup : mg "super" = none
  xfe : L.xc = L.T.xc
  xcs : ∀ q fs, L.T.xc.lookup q = some fs → ∃ g fI cc c qual params body scope, fs = Option.toList g ∧ XIn P K (He.ga K q) fI cc c g qual params body scope ∧ mg q = some (.ref (He.ga K q)) ∧ XfC K (He.ga K q) ∧ ∀ f ∈ fs, PySem.W.findIn K (.ref (He.ga K q)) f = some none
  xmt : ∀ q q', (L.T.xc.lookup q).isSome = true → (L.T.xc.lookup q').isSome = true → PySem.W.exmOne K (.ref (He.ga K q)) (.ref (He.ga K q')) = some (decide (q = q'))
  hdf : ∀ hf, hf ∈ L.hds → hf.ok L.T = true ∧ ∃ fd, FunD K hf.dd.name hf.dd.qual hf.dd.params hf.dd.body hf.dd.scope (hf.dd.dvs K) (hf.dd.kws K) (He.fAd K hf.dd.at_) fd
  hdn : ∀ f, L.T.hds.contains f = true → ∃ hf, L.findH f = some hf ∧ hf.q = f ∧ hf ∈ L.hds ∧ mg f = some (.ref (He.fAd K hf.dd.at_))
  lms : ∀ df, df ∈ L.defs → df.lam = true → ∀ oc od fd osl, K.lookup (df.ad K) = some ⟨oc, od, .func fd, osl⟩ → ∃ c P, fd.code = .ref c ∧ (c, P, df.dd.qual ++ ".<locals>." ++ "<lambda>") ∈ csOf K ∧ ∀ p ∈ tbs K, p.1 = P → p.2 = df.dd.qual ++ ".<locals>." ++ "<lambda>"
  sts : ∀ k m q, L.T.sts.contains (k, m, q) = true → ∃ df, L.find q = some df ∧ StM K k m (df.ad K) ∧ mg k = some (.ref (He.ga K k))
  gdf : ∀ gf, gf ∈ L.gens → gf.ok L.T = true ∧ ∃ fd, FunD K gf.dd.name gf.dd.qual gf.dd.params gf.dd.body gf.dd.scope (gf.dd.dvs K) (gf.dd.kws K) (He.fAd K gf.dd.at_) fd
  gdn : ∀ f, L.T.gns.contains f = true → ∃ gf, L.find f = none ∧ L.findG f = some gf ∧ gf ∈ L.gens ∧ mg f = some (.ref (He.fAd K gf.dd.at_))
  x0s : ∀ q, L.T.x0.contains q = true → mg q = some (.ref (He.ga K q)) ∧ X0F K (He.ga K q)
  xis : ∀ q k, L.T.xis.contains (q, k) = true → (∀ p, ((L.T.xc.lookup p).isSome || L.T.x0.contains p) = true → XfC K (He.ga K p) ∧ IsC K (He.ga K p) ∧ PySem.W.kitOne K (.ref (He.ga K p)) (xqU K k q) = some (k.is p q)) ∧
    (k = .leaf → PySem.W.kitOne K (.type "NoneType") (xqU K k q) = some false) ∧ xqG K mg k q
  kpf : ∀ hf, hf ∈ L.hds → hf.h.kp.isSome = true → ∀ q, (L.T.xc.lookup q).isSome = true → IsC K (He.ga K q)
section
variable {P : Program} {w : World} {K : Frg} {mg : Str → Option Value} {base : Heap}
end
end Rf
end
section
namespace Rf
open PySem L2
def e0B (K : Frg) (a : Addr) : Bool := match K.lookup a with
  | some ⟨.type c, _, .seq its _, _⟩ => decide (c = "tuple") && its.isEmpty
  | _ => false
def dvB (K : Frg) : D → He.Dv → Bool
  | .non, .non => true
  | .bl b, .bl c => b == c
  | .int i, .int j => decide (i = j)
  | .str x, .str y => decide (x = y)
  | .e0, .adr p => e0B K (p K)
  | _, _ => false
def dvsB (K : Frg) : List D → List He.Dv → Bool
  | [], [] => true
  | d :: ds, v :: vs => dvB K d v && dvsB K ds vs
  | _, _ => false
def BndOk (df : Df) : Prop := ∀ K fd, FunD K df.dd.name df.dd.qual df.dd.params df.dd.body df.dd.scope (df.dd.dvs K) (df.dd.kws K) (df.ad K) fd → ∀ j, j ≤ df.dfl.length → ∃ ds, Vals ((df.dd.dvs K).drop j) ds ∧ Binds K fd df.ps ds
def baseKd : List Kd := [.non, .bl, .int, .str, .tup, .lst, .dct]
def baseTy : List Ty := [.int, .bool, .str, .list, .tuple, .dict]
def allKd (cls : List Str) : List Kd := baseKd ++ cls.map .own
def allTy (cls : List Str) : List Ty := baseTy ++ cls.map .own
def isiB (K : Frg) (cls : List Str) : Bool := (allKd cls).all fun k => (allTy cls).all fun t => decide (PySem.W.kitOne K (kdV K k) (tyU K t) = some (kdB t k))
def ownB (K : Frg) (c : Str) : Bool := (He.Fa.cls c).ok K && He.eqO (PySem.W.findIn K (.ref (He.ga K c)) "__class__") (some (some (.builtin "object.__class__"))) && He.eqO (PySem.W.specialIn K (.builtin "object.__class__") "__get__") (some (some (.builtin "getset_descriptor.__get__"))) &&
  decide (PySem.W.takesIn K (.builtin "object.__class__") = some true) && decide (PySem.W.mroIn K (He.ga K c) (.type "object") = some true)
def conB (K : Frg) (x : Str) : D → Bool
  | .str s => (He.Fa.str x s).ok K
  | .int i => (He.Fa.int x i).ok K
  | .tup [.int i, .int j] => (He.Fa.glo x).ok K && He.tupB K x [.int i, .int j]
  | _ => false
def fnWS (K : Frg) (p : Str × Option Str) : He.FnW := match K.lookup (stAd K p.1 (p.2.getD "")) with
  | some ⟨_, _, .func fd, _⟩ => some (fd.name, fd.qualname, fd.params, fd.body, fd.scope, fd.globals, fd.closure, fd.builtins)
  | _ => none
def stOk (K : Frg) (d : He.DefD) : Bool := PySem.W.keepIn K (.ref (stAd K d.at_.1 (d.at_.2.getD ""))) && (match K.lookup (stAd K d.at_.1 (d.at_.2.getD "")) with
  | some ⟨_, _, .func fd, _⟩ => PySem.W.codeIn K fd.code d.qual && (He.dflB K fd.defaults (d.dvs K) && He.kwdB K fd.kwdefaults (d.kws K))
  | _ => false)
def Law.fa0 (L : Law) : List He.Fa := L.T.bts.map .free ++ (L.T.fns.map .glo ++ (L.T.mks.flatMap (fun p => [.mkr p.1, .glo p.1]) ++ (L.T.mths.flatMap (fun p => [.cls p.1, .meth p.1 p.2.1]) ++ (L.T.clss.map .glo ++
  (L.fl.flatMap (fun p => .cls p.1 :: p.2.map (.noat p.1)) ++ L.itd.flatMap (fun i => [.meth i.k "__iter__", .meth i.k "__len__", .cls i.k, .noat i.k i.g, .free "iter", .free "len"]))))))
def xqFa (p : Str × Xq) : He.Fa := match p.2 with
  | .blt => .free "ValueError"
  | _ => .glo p.1
def Law.xvFa (L : Law) : List He.Fa := L.T.x0.flatMap (fun q => [.exc q, .glo q]) ++ L.T.xis.map xqFa
def Law.fa (L : Law) : List He.Fa := L.fa0 ++ (.free "super" :: (L.T.xc.map (fun p => .glo p.1) ++ (L.T.hds.map .glo ++ (L.T.gns.map .glo ++ (L.T.sts.map (fun p => .glo p.1) ++ L.xvFa)))))
def Law.fnS (L : Law) : List He.DefD := (L.defs.filter (·.st)).map (·.dd)
def Law.fnD (L : Law) : List He.DefD := (L.defs.filter (fun d => !d.st)).map (·.dd) ++ (L.itd.flatMap (fun i => [i.di, i.dl]) ++ (L.hds.map (·.dd) ++ L.gens.map (·.dd)))
def xcB (K : Frg) (file : Str) (xc : List (Str × List Str)) : Bool := (xc.all fun p => xinB K file (He.ga K p.1) p.2.head? && decide (p.2.length ≤ 1) && xfB K (He.ga K p.1) && p.2.all fun f => He.eqO (PySem.W.findIn K (.ref (He.ga K p.1)) f) (some none)) &&
  (xc.all fun p => xc.all fun r => decide (PySem.W.exmOne K (.ref (He.ga K p.1)) (.ref (He.ga K r.1)) = some (decide (p.1 = r.1))))
def lstB (K : Frg) : Bool := [Operator.Sub, .BitAnd].all fun op => ["list", "tuple"].all fun tn => He.eqO (PySem.W.findIn K (.type tn) (PySem.dunder op.info.2)) (some none) && He.eqO (PySem.W.findIn K (.type tn) (dunderR op.info.2)) (some none)
def eqClsB (K : Frg) (C : Addr) : Bool := He.eqO (PySem.W.findIn K (.ref C) "__ne__") (some (some (.builtin "object.__ne__"))) && decide (PySem.W.subIn K (.ref C) (.type "object") = some true)
def isxB (K : Frg) (C : Addr) : Bool := (PySem.W.clsIn K C).isSome && He.eqO (PySem.W.findIn K (.ref C) "__class__") (some (some (.builtin "object.__class__"))) && He.eqO (PySem.W.specialIn K (.builtin "object.__class__") "__get__") (some (some (.builtin "getset_descriptor.__get__"))) &&
  decide (PySem.W.takesIn K (.builtin "object.__class__") = some true) && decide (PySem.W.mroIn K C (.type "object") = some true)
def kB (K : Frg) (p q : Str) (k : Xq) : Bool := xfB K (He.ga K p) && isxB K (He.ga K p) && decide (PySem.W.kitOne K (.ref (He.ga K p)) (xqU K k q) = some (k.is p q))
def xisB (K : Frg) (xc : List (Str × List Str)) (x0 : List Str) (q : Str) (k : Xq) : Bool := (xc.all fun p => kB K p.1 q k) && (x0.all fun p => kB K p q k) && (!decide (k = .leaf) || decide (PySem.W.kitOne K (.type "NoneType") (xqU K k q) = some false)) && !(q == ("__debug__" : Str))
def Law.xvB (L : Law) (K : Frg) : Bool := L.T.xis.all fun p => xisB K L.T.xc L.T.x0 p.1 p.2
def Law.kpB (L : Law) (K : Frg) : Bool := L.hds.all fun hf => !hf.h.kp.isSome || L.T.xc.all fun p => isxB K (He.ga K p.1)
def Law.ex (L : Law) (K : Frg) : Bool := isiB K L.cls && (L.cls.all (ownB K) && ((L.T.cons.all fun x => match L.con x with | some d => conB K x d | none => false) && ((L.defs.all fun df => dvsB K df.dfl df.dd.dfl) && ((L.T.mths.all fun p => PySem.W.selfFirst K (He.ga K p.1) && (PySem.W.fnIn K (He.fAd K (p.1, some p.2.1)) && (!decide (p.2.1 = "__eq__") || eqClsB K (He.ga K p.1)))) && (lstB K && (xcB K L.file L.T.xc && ((L.defs.all fun df => !df.lam || (!df.st && lamDB K df.dd.at_ df.dd.qual)) && ((L.T.sts.all fun p => stB K p.1 p.2.1) && (L.fnS.all (stOk K) && (L.kpB K && L.xvB K))))))))))
def Law.chk (L : Law) : Bool := (L.T.fns.all fun f => match L.find f with | some df => !df.st && decide (df.dd.at_ = (f, none)) | none => false) && (L.T.mks.all fun p => match L.find p.2 with | some df => !df.st && decide (df.dd.at_ = (p.1, some ("__init__" : Str))) | none => false) &&
  (L.T.mths.all fun p => match L.find p.2.2 with | some df => !df.st && decide (df.dd.at_ = (p.1, some p.2.1)) | none => false) && (L.T.itc.all fun k => match L.itd.find? (fun i => i.k == k) with | some i => i.ok && i.di.dfl.isEmpty && i.dl.dfl.isEmpty | none => false) && decide (L.xc = L.T.xc) && (L.T.hds.all fun f => match L.findH f with | some hf => decide (hf.q = f) && decide (hf.dd.at_ = (f, none)) | none => false) && (L.T.gns.all fun f => match L.findG f with | some gf => decide (gf.dd.at_ = (f, none)) && (L.find f).isNone | none => false) && (L.gens.all fun gf => gf.ok L.T) && (L.T.sts.all fun p => match L.find p.2.2 with | some df => df.st && decide (df.dd.at_ = (p.1, some p.2.1)) | none => false) && (L.T.als.all fun p => match L.find p.2 with | some df => !df.st && decide (df.dd.at_ = (p.1, none)) | none => false)
section
variable {L : Law} {K : Frg} {h : Heap} {mg : Str → Option Value} {w : World}
end
end Rf
end
section
namespace Rf
open PySem L2
def decA : Nat → Nat → List Addr
  | 0, _ => []
  | n + 1, x => Nat.mod x 65536 :: decA n (Nat.div x 65536)
abbrev AlS : Type := He.AlX × List He.FnW
def obsA (as : List Addr) (fa : List He.Fa) (fn ss : List He.DefD) (ex : Frg → Bool) (g : Addr → Option Obj) : AlS := ((He.obsT fa fn [] (He.frT g as), ex (He.frT g as) && tabsK g (He.frT g as)), ss.map fun d => fnWS (He.frT g as) d.at_)
def valA (fn ss : List He.DefD) (w : World) : AlS := (He.valX fn [] w, ss.map He.DefD.val)
def TabsE (h : Heap) (K : Frg) : Prop := ∀ p ∈ csOf K, K.lookup p.2.1 = none ∧ h.get? p.2.1 = some { cls := .none, data := .fields #[] }
structure TabsS (ss : List He.DefD) (h : Heap) (K : Frg) : Prop where
  tb : TabsE h K
  st : ∀ d ∈ ss, fnWS K d.at_ = d.val
def Law.ob (L : Law) (as : List Addr) (s : PySem.W.SharedT) : AlS := obsA as L.fa L.fnD L.fnS L.ex (HandSHeadRun.getT s)
def Law.good (L : Law) (d : Nat) (df : Df) : Prop := ∀ ns : List Int, ns.length ≤ 63 → ∃ Ω, L.g d df [.scr ns] [] = .ok (.bl true) Ω
structure Law.Ready (L : Law) (df : Df) : Prop where
  dfl : L.T.dfl = L.dflOf
  chk : L.chk = true
  bnd : ∀ df, df ∈ L.defs → BndOk df
  ok : ∀ df, df ∈ L.defs → df.ok L.T = true
  law : df ∈ L.defs
  at_ : df.dd.at_ = (("law" : Str), none)
  glo : L.T.fns.contains ("law" : Str) = true
  nodf : df.dd.dfl = []
  nst : (!df.st) = true
  ps : ∃ x, df.ps = [x]
  pl : plainB df.dd.params df.ps = true
  hok : ∀ hf, hf ∈ L.hds → hf.ok L.T = true
end Rf
end
section
namespace Rf.K01
open PySem L2
def top (i : Nat) : Stmt := PySem.Challenge.pw_linkedfaults_k01_errors_made.main.body.getD i (.Pass ⟨0, 0, 0, 0⟩)
def f__law_spring : Df := ⟨"_law_spring", ["_law_script"], ["_law_script", "_law_small", "_law_cell"], Rf.C.s__law_spring, [], ⟨("_law_spring", none), "_law_spring", "_law_spring", defArgs (top 26), defBody (top 26), defScope (top 26), [], []⟩, false, false⟩
def f__law_take : Df := ⟨"_law_take", ["_law_spring_here", "_law_many"], ["_law_spring_here", "_law_many", "_law_cell", "_law_first", "_law_second", "_law_figure"], Rf.C.s__law_take, [], ⟨("_law_take", none), "_law_take", "_law_take", defArgs (top 27), defBody (top 27), defScope (top 27), [], []⟩, false, false⟩
def f__law_one : Df := ⟨"_law_one", ["_law_spring_here", "_law_things"], ["_law_spring_here", "_law_things"], Rf.C.s__law_one, [], ⟨("_law_one", none), "_law_one", "_law_one", defArgs (top 28), defBody (top 28), defScope (top 28), [], []⟩, false, false⟩
def f__law_same : Df := ⟨"_law_same", ["_law_found", "_law_due"], ["_law_found", "_law_due", "_law_is_truth", "_law_key", "_law_x", "_law_y"], Rf.C.s__law_same, [], ⟨("_law_same", none), "_law_same", "_law_same", defArgs (top 29), defBody (top 29), defScope (top 29), [], []⟩, false, false⟩
def f__law_made_of : Df := ⟨"_law_made_of", ["_law_one_here", "_law_other"], ["_law_one_here", "_law_other", "_law_found"], Rf.C.s__law_made_of, [], ⟨("_law_made_of", none), "_law_made_of", "_law_made_of", defArgs (top 30), defBody (top 30), defScope (top 30), [], []⟩, false, false⟩
def f__law_bare : Df := ⟨"_law_bare", [], ["_law_found"], Rf.C.s__law_bare, [], ⟨("_law_bare", none), "_law_bare", "_law_bare", defArgs (top 31), defBody (top 31), defScope (top 31), [], []⟩, false, false⟩
def f__law_classes : Df := ⟨"_law_classes", ["_law_e"], ["_law_e", "_law_found"], Rf.C.s__law_classes, [], ⟨("_law_classes", none), "_law_classes", "_law_classes", defArgs (top 32), defBody (top 32), defScope (top 32), [], []⟩, false, false⟩
def s_law : SL := (.cons (.asg (.nm 1) (.call "_law_spring" (.cons (.var 0) .nil) 0)) (.cons (.asg (.nm 2) (.lst (.cons .non (.cons (.int 5) (.cons (.neg (.int 7)) (.cons (.bl true) (.cons (.str "") (.cons (.str "abc") (.cons (.tup .nil) (.cons (.tup (.cons (.int 1) (.cons (.tup (.cons (.int 2) (.cons (.str "x") .nil))) .nil))) (.cons (.op2 .Pow (.int 10) (.int 30)) (.cons (.tup (.cons (.str "a") (.cons (.str "b") .nil))) (.cons (.lst (.cons (.int 1) (.cons (.lst (.cons (.int 2) .nil)) .nil))) (.cons (.frz .newk) (.cons (.dsp (.cons (.str "a") (.cons (.int 1) .nil))) .nil))))))))))))))) (.cons (.asg (.nm 3) (.bi .len (.cons (.call "_law_classes" (.cons .non .nil) 0) .nil))) (.cons (.for (.nm 4) (.rng (.int 4)) (.cons (.par [6, 7] (.cons (.call "_law_one" (.cons (.var 1) (.cons (.var 2) .nil)) 0) (.cons (.call "_law_one" (.cons (.var 1) (.cons (.var 2) .nil)) 0) .nil))) (.cons (.asg (.nm 5) (.call "_law_made_of" (.cons (.var 6) (.cons (.var 7) .nil)) 0)) (.cons (.for (.tp [8, 9, 10]) (.val (.var 5)) (.cons (.ife (.not (.call "_law_same" (.cons (.lst (.cons (.var 9) (.cons (.var 10) .nil))) (.cons (.lst (.cons (.var 6) (.cons (.var 7) .nil))) .nil)) 0)) (.cons (.ret (.bl false)) .nil) .nil) .nil)) (.cons (.for (.tp [11, 8]) (.enum (.op2 .Add (.lc [12] (.nm 12) (.val (.var 5)) .none (.idx (.var 12) (.int 0))) (.call "_law_bare" .nil 0))) (.cons (.ife (.cmp .NotEq (.call "_law_classes" (.cons (.var 8) .nil) 0) (.lc [13] (.nm 13) (.rng (.var 3)) .none (.cmp .Eq (.var 13) (.var 11)))) (.cons (.ret (.bl false)) .nil) .nil) (.cons (.ife (.or (.cons (.not (.isx (.var 8) "FaultError" .base)) (.cons (.not (.isx (.var 8) "ValueError" .blt)) .nil))) (.cons (.ret (.bl false)) .nil) .nil) .nil))) .nil))))) (.cons (.ret (.and (.cons (.cmp .Eq (.call "_law_classes" (.cons (.exn0 "FaultError") .nil) 0) (.op2 .Mult (.lst (.cons (.bl false) .nil)) (.var 3))) (.cons (.isx (.exn0 "FaultError") "ValueError" .blt) .nil)))) .nil)))))
def f_law : Df := ⟨"law", ["_law_script"], ["_law_script", "_law_spring_here", "_law_odd", "_law_many", "_law_turn", "_law_made", "_law_one_here", "_law_other", "_law_error", "_law_first", "_law_second", "_law_at", "_law_row", "_law_k"], s_law, [], ⟨("law", none), "law", "law", defArgs (top 33), defBody (top 33), defScope (top 33), [], []⟩, false, false⟩
def fl : List (Str × List Str) := []
def cn : List (Str × D) := []
def defs : List Df := [f__law_spring, f__law_take, f__law_one, f__law_same, f__law_made_of, f__law_bare, f__law_classes, f_law]
def dflOf (x : Str) : List D := match defs.find? fun d => d.q == x with
  | some d => d.dfl
  | none => []
def itd : List ItDef := []
def xcl : List (Str × List Str) := [("BadCoin", ["name"]), ("BadCount", ["count"]), ("BadFault", ["name"]), ("BadLink", ["index"]), ("BadName", ["name"]), ("BadNumber", ["number"]), ("BadOrder", []), ("BadOutcome", ["outcome"]), ("BadPlace", ["place"]), ("BadSetting", []), ("BadShare", ["share"]), ("BadSum", []), ("BadText", ["line"]), ("Clash", ["name"]), ("Never", []), ("NoDeed", []), ("NoEnd", []), ("NoFault", ["name"]), ("NoPaper", []), ("NoWatch", ["word"]), ("SameFault", ["name"]), ("UnlikeFaults", []), ("Unsafe", ["some"])]
def hdl : List Hf := []
def gnl : List Gf := []
def tab : Tab := ⟨["all", "bool", "dict", "enumerate", "int", "isinstance", "len", "list", "range", "tuple", "zip"], [], ["_law_bare", "_law_classes", "_law_made_of", "_law_one", "_law_same", "_law_spring", "_law_take", "law"], [], [], [], [], dflOf, [], xcl, [], [], [], [], ["FaultError"], [("BadCoin", .leaf), ("BadCount", .leaf), ("BadFault", .leaf), ("BadLink", .leaf), ("BadName", .leaf), ("BadNumber", .leaf), ("BadOrder", .leaf), ("BadOutcome", .leaf), ("BadPlace", .leaf), ("BadSetting", .leaf), ("BadShare", .leaf), ("BadSum", .leaf), ("BadText", .leaf), ("Clash", .leaf), ("FaultError", .base), ("Never", .leaf), ("NoDeed", .leaf), ("NoEnd", .leaf), ("NoFault", .leaf), ("NoPaper", .leaf), ("NoWatch", .leaf), ("SameFault", .leaf), ("UnlikeFaults", .leaf), ("Unsafe", .leaf), ("ValueError", .blt)]⟩
def L : Law := ⟨defs, cn, fl, [], itd, xcl, hdl, gnl, PySem.Challenge.pw_linkedfaults_k01_errors_made.main.file, tab⟩
end Rf.K01
end
section
namespace Rf.K01
open PySem L2
def loose : List Str := ((["FaultError", "BadFault", "BadLink", "NoFault", "BadShare", "SameFault", "BadNumber", "Clash", "BadSum", "BadName", "BadOutcome", "Never", "UnlikeFaults", "Unsafe", "NoPaper", "BadCount", "BadPlace", "BadCoin", "BadSetting", "BadOrder", "NoEnd", "NoWatch", "NoDeed", "BadText", "_law_spring", "_law_take", "_law_one", "_law_same", "_law_made_of", "_law_bare"] : List Str) ++ (["_law_classes"] : List Str))
abbrev R : PySem.W.OpenRow := PySem.W.OpenLaw.row PySem.Challenge.rw_linkedfaults_k01_errors_made
def places : List Addr := cStatics :: decA 311 64617937523891582995318912365310977368018359117267519364297221912298153277124529472112830932277465130119961458102404572009604979816542158316447589637195679166816938154653367889735442894628434525067982924171007963421052778791059130820613590500266683171748480673734290113611104153940776904728920475312321175148941630459414338108349015264473585060154030905571543482060214777551415371189127844548040120207803596382315042866714071391773759247250215127790556531375320386599623050973598142567450782197246256182234155786100511269802545808016346815803358372291977770976140848409524987008902357452998458905044140380888162349968842695748597998621956968174917821661224214258784711324708622567721719711648645335634667032357548530747023007523069086471711018889997795444135776453959366324085428524828574079071143810894021934902673615279530711369318342408353415565352414733905154856264156204080480900297422722918783131164733519774001790405599607729430899696022730877522758597665787280862221149088033686565179934028083065732575770006315829505293730298273809421133763443658663418088369459614049667329633024682466778808883976769939191935381572219285625935815383724511310111327396804693397203852361815001127689175903183770648932353157939646281922941973756967532120017433128587556106899559105524861376944802355537659455544154601736266050191077937752164353708127455626643229925800020140878907051045544955267015717590627660646955072472701424213534881510568583238671286013672982550916102176098171922013338465882796851203
open PySem PySem.W PySem.Calls PyProof.Rows HandSHeadRun in
theorem run1 (w : World) (os : OsState) : (HandSHeadRun.endF (HandSHeadRun.stepQ (HandSHeadRun.denQ HandSHeadRun.tabQ) R.prog w) 8000 R.prog w os).map (fun s => (looksF R.prog (boot_heap w.params) s.abs, seenQ (PySem.W.view R.prog [33]) loose (importedModules R.prog.main.body) (fun s => xlAt (PySem.W.view R.prog [33]) [] s && recOk R.toRowW.records s) s.abs)) = some (true, openGood (PySem.W.view R.prog [33]) loose) := by kernel_rfl
open PySem PySem.W PySem.Calls PyProof.Rows HandSHeadRun in
theorem run2a (w : World) (os : OsState) : (HandSHeadRun.endF (HandSHeadRun.stepQ (HandSHeadRun.denQ HandSHeadRun.tabQ) R.prog w) 8000 R.prog w os).map (fun s => He.obsT L.fa L.fnD [] (He.frT (HandSHeadRun.getT s) places)) = some (He.valT L.fnD [] w) := by kernel_rfl
open PySem PySem.W PySem.Calls PyProof.Rows HandSHeadRun in
theorem run2b (w : World) (os : OsState) : (HandSHeadRun.endF (HandSHeadRun.stepQ (HandSHeadRun.denQ HandSHeadRun.tabQ) R.prog w) 8000 R.prog w os).map (fun s => (L.ex (He.frT (HandSHeadRun.getT s) places) && tabsK (HandSHeadRun.getT s) (He.frT (HandSHeadRun.getT s) places), L.fnS.map fun d => fnWS (He.frT (HandSHeadRun.getT s) places) d.at_)) = some (true, L.fnS.map He.DefD.val) := by kernel_rfl
end Rf.K01
namespace Rf.K01
open PySem PySem.W PySem.Calls PyProof.Rows
abbrev RW : PySem.W.OpenLaw := PySem.Challenge.rw_linkedfaults_k01_errors_made
end Rf.K01
end
section
namespace Rf
open PySem L2
section
variable {K : Frg} {G G' : Hp} {μ μ' : Mu} {n n' : Nat}
theorem Tr.sqt (t : Tr K G μ n G' μ' n') {p : Addr} {vs : List V} (h : SqT K G p vs) : SqT K G' p vs := by
  rcases h with (h | ⟨o, h⟩) | h
  · exact .inl (.inl (t.le _ _ h))
  · exact .inl (.inr ⟨o, t.le _ _ h⟩)
  · exact .inr h
theorem Tr.rd (t : Tr K G μ n G' μ' n') {p : Addr} {u : HO} (h : Rd G p u) : Rd G' p u := by
  rcases h with h | ⟨o, h⟩
  · exact .inl (t.le _ _ h)
  · exact .inr ⟨o, t.le _ _ h⟩
theorem Tr.sql (t : Tr K G μ n G' μ' n') {p : Addr} {vs : List V} (h : SqL K G p vs) : SqL K G' p vs := by
  rcases h with (h | ⟨o, h⟩) | h
  · exact .inl (.inl (t.le _ _ h))
  · exact .inl (.inr ⟨o, t.le _ _ h⟩)
  · exact .inr h
mutual
theorem Rep.tr (t : Tr K G μ n G' μ' n') : ∀ (d : D) (v : V), Rep K G μ n d v → Rep K G' μ' n' d v
  | .non, v, h => by simpa [Rep] using h
  | .bl b, v, h => by simpa [Rep] using h
  | .int i, v, h => by simpa [Rep] using h
  | .str s, v, h => by simpa [Rep] using h
  | .tup xs, v, h => by
    simp only [Rep] at h ⊢
    obtain ⟨p, vs, e, r, z, c⟩ := h
    refine ⟨p, vs, e, Reps.tr t xs vs r, z, ?_⟩
    rcases c with c | ⟨c1, c2⟩
    · exact .inl (t.le _ _ c)
    · exact .inr ⟨c1, t.sqt c2⟩
  | .e0, v, h => by
    simp only [Rep] at h ⊢
    obtain ⟨p, e, c⟩ := h
    exact ⟨p, e, t.sqt c⟩
  | .lst xs, v, h => by
    simp only [Rep] at h ⊢
    obtain ⟨p, vs, e, r, z, c⟩ := h
    exact ⟨p, vs, e, Reps.tr t xs vs r, z, t.le _ _ c⟩
  | .scr ns, v, h => by
    simp only [Rep] at h ⊢
    obtain ⟨p, e, z, c⟩ := h
    exact ⟨p, e, z, t.sql c⟩
  | .dk kvs, v, h => by
    simp only [Rep] at h ⊢
    obtain ⟨p, vs, od, e, r, c⟩ := h
    exact ⟨p, vs, od, e, RepK.tr t kvs vs r, t.le _ _ c⟩
  | .dt kvs, v, h => by
    simp only [Rep] at h ⊢
    obtain ⟨p, vs, od, e, r, c⟩ := h
    exact ⟨p, vs, od, e, RepT.tr t kvs vs r, t.le _ _ c⟩
  | .ins c fs, v, h => by
    simp only [Rep] at h ⊢
    obtain ⟨p, dx, vs, e, r, c⟩ := h
    exact ⟨p, dx, vs, e, RepS.tr t fs vs r, t.le _ _ c⟩
  | .hd k, v, h => by
    simp only [Rep] at h ⊢
    obtain ⟨h1, h2⟩ := h
    exact ⟨Nat.lt_of_lt_of_le h1 t.len, by rw [h2, t.mu k h1]⟩
  | .exn c fs, v, h => by
    simp only [Rep] at h ⊢
    obtain ⟨p, e, h⟩ := h
    refine ⟨p, e, ?_⟩
    rcases h with ⟨h1, h2⟩ | ⟨d, ws, h1, h2, r⟩
    · exact .inl ⟨h1, t.le _ _ h2⟩
    · exact .inr ⟨d, ws, t.le _ _ h1, t.le _ _ h2, RepS.tr t fs ws r⟩
theorem Reps.tr (t : Tr K G μ n G' μ' n') : ∀ (ds : List D) (vs : List V), Reps K G μ n ds vs → Reps K G' μ' n' ds vs
  | [], vs, h => by simpa [Reps] using h
  | d :: ds, vs, h => by
    simp only [Reps] at h ⊢
    obtain ⟨v, ws, e, r, rs⟩ := h
    exact ⟨v, ws, e, Rep.tr t d v r, Reps.tr t ds ws rs⟩
theorem RepK.tr (t : Tr K G μ n G' μ' n') : ∀ (ds : List (Key × D)) (vs : List (Key × V)), RepK K G μ n ds vs → RepK K G' μ' n' ds vs
  | [], vs, h => by simpa [RepK] using h
  | (k, d) :: ds, vs, h => by
    simp only [RepK] at h ⊢
    obtain ⟨v, ws, e, r, rs⟩ := h
    exact ⟨v, ws, e, Rep.tr t d v r, RepK.tr t ds ws rs⟩
theorem RepT.tr (t : Tr K G μ n G' μ' n') : ∀ (ds : List (List Key × D)) (vs : List (List Key × V)), RepT K G μ n ds vs → RepT K G' μ' n' ds vs
  | [], vs, h => by simpa [RepT] using h
  | (k, d) :: ds, vs, h => by
    simp only [RepT] at h ⊢
    obtain ⟨v, ws, e, r, rs⟩ := h
    exact ⟨v, ws, e, Rep.tr t d v r, RepT.tr t ds ws rs⟩
theorem RepS.tr (t : Tr K G μ n G' μ' n') : ∀ (ds : List (Str × D)) (vs : List (Str × V)), RepS K G μ n ds vs → RepS K G' μ' n' ds vs
  | [], vs, h => by simpa [RepS] using h
  | (k, d) :: ds, vs, h => by
    simp only [RepS] at h ⊢
    obtain ⟨v, ws, e, r, rs⟩ := h
    exact ⟨v, ws, e, Rep.tr t d v r, RepS.tr t ds ws rs⟩
end
end
end Rf
end
section
namespace Rf
open PySem L2
theorem mem_addrs0 {μ : Mu} {Ω : Sto} {a : Addr} : a ∈ addrs0 μ Ω ↔ ∃ k, Alive Ω k ∧ μ k = a := by
  unfold addrs0
  rw [List.mem_filterMap]
  constructor
  · rintro ⟨k, _, h⟩
    cases e : Ω[k]? with
    | none => rw [e] at h; cases h
    | some o =>
      rw [e] at h
      cases o with
      | dead => cases h
      | lst xs => exact ⟨k, ⟨_, e, by intro z; cases z⟩, Option.some.inj h⟩
      | dk xs => exact ⟨k, ⟨_, e, by intro z; cases z⟩, Option.some.inj h⟩
      | dt xs => exact ⟨k, ⟨_, e, by intro z; cases z⟩, Option.some.inj h⟩
      | ins c xs => exact ⟨k, ⟨_, e, by intro z; cases z⟩, Option.some.inj h⟩
  · rintro ⟨k, ⟨o, e, hne⟩, h⟩
    refine ⟨k, List.mem_range.mpr (List.getElem?_eq_some_iff.mp e).1, ?_⟩
    rw [e]
    cases o with
    | dead => exact absurd rfl hne
    | _ => rw [← h]
theorem mem_addrs {μ : Mu} {Ω : Sto} {a : Addr} : a ∈ addrs μ Ω ↔ (∃ k, Alive Ω k ∧ μ k = a) ∨ a ∈ μ.hid := by
  unfold addrs
  rw [List.mem_append, mem_addrs0]
theorem noT_eq {o : HO} (h : NoT o) : noT (some o) = some o := by
  cases o <;> first | rfl | exact absurd rfl (h _)
theorem noT_of {x : Option HO} {o : HO} (h : noT x = some o) : x = some o ∧ NoT o := by
  cases x with
  | none => cases h
  | some u =>
    cases u with
    | tbl ps => cases h
    | _ => cases h; exact ⟨rfl, fun ps z => by cases z⟩
theorem Fz.nt {H : Hp} {μ : Mu} {Ω : Sto} {a : Addr} {o : HO} (h : Fz H μ Ω a = some o) : NoT o := by
  unfold Fz at h
  split at h
  · cases h
  · exact (noT_of h).2
theorem Fz.of {H : Hp} {μ : Mu} {Ω : Sto} {a : Addr} {o : HO} (h : Fz H μ Ω a = some o) : H a = some o ∧ Off μ Ω a := by
  unfold Fz at h
  split at h
  · cases h
  · rename_i hn
    exact ⟨(noT_of h).1, fun k hk e => hn (mem_addrs.mpr (.inl ⟨k, hk, e⟩)), fun hh => hn (mem_addrs.mpr (.inr hh))⟩
theorem Fz.mk {H : Hp} {μ : Mu} {Ω : Sto} {a : Addr} {o : HO} (h : H a = some o) (hk : Off μ Ω a) (nt : NoT o := by first | exact Fz.nt (by assumption) | (intro _ z; cases z; done)) : Fz H μ Ω a = some o := by
  unfold Fz
  rw [if_neg]
  · rw [h]; exact noT_eq nt
  · intro hm
    rcases mem_addrs.mp hm with ⟨k, h1, h2⟩ | hh
    · exact hk.1 k h1 h2
    · exact hk.2 hh
theorem ORep.tr {K : Frg} {G G' : Hp} {μ μ' : Mu} {n n' : Nat} (t : Tr K G μ n G' μ' n') : ∀ {o : Ob} {h : HO}, ORep K G μ n o h → ORep K G' μ' n' o h
  | .dead, _, h => h
  | .lst xs, o, ⟨vs, e, r, z⟩ => ⟨vs, e, Reps.tr t _ _ r, z⟩
  | .dk xs, o, ⟨vs, e, r⟩ => ⟨vs, e, RepK.tr t _ _ r⟩
  | .dt xs, o, ⟨vs, e, r⟩ => ⟨vs, e, RepT.tr t _ _ r⟩
  | .ins c xs, o, ⟨dx, vs, e, r⟩ => ⟨dx, vs, e, RepS.tr t _ _ r⟩
theorem tabs_upd {T : List (Addr × Str)} {H : Hp} {p : Addr} {o : HO} (t : LamX.Tabs T H) (h : ∀ u, H p = some u → MutN (some u)) : LamX.Tabs T (upd H p o) := fun q hq => by
  obtain ⟨ps, e1, e2, e3⟩ := t q hq
  have ne : q.1 ≠ p := fun z => by
    rw [z] at e1
    exact h _ e1
  refine ⟨ps, by rw [upd_ne ne]; exact e1, e2, fun pos cv hc => ?_⟩
  obtain ⟨c, e4, e5⟩ := e3 pos cv hc
  refine ⟨c, e4, ?_⟩
  rw [upd_ne (fun z => by
    rw [z] at e5
    exact h _ e5)]
  exact e5
theorem tabs_new {T : List (Addr × Str)} {H : Hp} {p : Addr} {o : HO} (t : LamX.Tabs T H) (hp : H p = none) : LamX.Tabs T (upd H p o) := tabs_upd t fun u e => by rw [hp] at e; cases e
theorem ORep.mut {K : Frg} {G : Hp} {μ : Mu} {n : Nat} {ob : Ob} {o : HO} (r : ORep K G μ n ob o) : MutN (some o) := by
  cases ob with
  | dead => exact False.elim r
  | lst xs => obtain ⟨vs, rfl, _⟩ := r; trivial
  | dk xs => obtain ⟨vs, rfl, _⟩ := r; trivial
  | dt xs => obtain ⟨vs, rfl, _⟩ := r; trivial
  | ins c xs => obtain ⟨dx, vs, rfl, _⟩ := r; trivial
section
variable {K : Frg} {H H' H'' G G' : Hp} {μ μ' μ'' : Mu} {Ω Ω' Ω'' : Sto} {n n' : Nat}
theorem Tr.of_le (h : ∀ a o, G a = some o → G' a = some o) (hm : ∀ k, k < n → μ' k = μ k) (hl : n ≤ n') : Tr K G μ n G' μ' n' := ⟨h, hm, hl⟩
theorem Ext.tr (e : Ext K H μ Ω H' μ' Ω') : Tr K (Fz H μ Ω) μ Ω.length (Fz H' μ' Ω') μ' Ω'.length := Tr.of_le e.fz e.mu e.len
theorem Ext.refl (w : Wf K H μ Ω) : Ext K H μ Ω H μ Ω := ⟨w, fun _ _ h => h, fun _ _ => rfl, Nat.le_refl _, rfl, fun _ _ => rfl⟩
theorem Ext.trans (a : Ext K H μ Ω H' μ' Ω') (b : Ext K H' μ' Ω' H'' μ'' Ω'') : Ext K H μ Ω H'' μ'' Ω'' :=
  ⟨b.wf, fun x o h => b.fz x o (a.fz x o h), fun k hk => (b.mu k (Nat.lt_of_lt_of_le hk a.len)).trans (a.mu k hk), Nat.le_trans a.len b.len, b.hid.trans a.hid,
    fun x hx => (b.hkp x (by rw [a.hid]; exact hx)).trans (a.hkp x hx)⟩
theorem Ext.lat (e : Ext K H μ Ω H' μ' Ω') : Lat K H μ Ω H' μ' Ω' := ⟨e.wf, e.fz, e.mu, e.len⟩
theorem Lat.tr (e : Lat K H μ Ω H' μ' Ω') : Tr K (Fz H μ Ω) μ Ω.length (Fz H' μ' Ω') μ' Ω'.length := Tr.of_le e.fz e.mu e.len
theorem Lat.trans (a : Lat K H μ Ω H' μ' Ω') (b : Lat K H' μ' Ω' H'' μ'' Ω'') : Lat K H μ Ω H'' μ'' Ω'' :=
  ⟨b.wf, fun x o h => b.fz x o (a.fz x o h), fun k hk => (b.mu k (Nat.lt_of_lt_of_le hk a.len)).trans (a.mu k hk), Nat.le_trans a.len b.len⟩
theorem Wf.alive (w : Wf K H μ Ω) {k : Nat} (h : Alive Ω k) : ∃ ho, H (μ k) = some ho := by
  obtain ⟨o, e, hne⟩ := h
  obtain ⟨ho, q, _⟩ := w.ob k o e hne
  exact ⟨ho, q⟩
theorem Wf.fresh (w : Wf K H μ Ω) {p : Addr} (h : H p = none) {k : Nat} (hk : Alive Ω k) : μ k ≠ p := fun e => by
  obtain ⟨ho, q⟩ := w.alive hk
  rw [e, h] at q
  cases q
theorem Wf.hne (w : Wf K H μ Ω) (a : Addr) (h : a ∈ μ.hid) : H a ≠ none := fun e => by
  have m := w.hin a h
  rw [e] at m
  exact m
theorem Wf.freshO (w : Wf K H μ Ω) {p : Addr} (h : H p = none) : Off μ Ω p := ⟨fun k hk => w.fresh h hk, fun hh => w.hne p hh h⟩
theorem Ext.new (w : Wf K H μ Ω) {p : Addr} {o : HO} (hp : H p = none) : Ext K H μ Ω (upd H p o) μ Ω := by
  have fz : ∀ a u, Fz H μ Ω a = some u → Fz (upd H p o) μ Ω a = some u := fun a u h => by
    obtain ⟨h1, h2⟩ := Fz.of h
    exact Fz.mk (by rw [upd_ne (ne_of_none h1 hp)]; exact h1) h2
  have hk : ∀ a, a ∈ μ.hid → upd H p o a = H a := fun a ha => upd_ne (fun e => w.hne a ha (by rw [e]; exact hp))
  refine ⟨⟨w.inj, fun k ob e hne => ?_, fun a ha => by rw [hk a ha]; exact w.hin a ha, w.hof, tabs_new w.tab hp⟩, fz, fun _ _ => rfl, Nat.le_refl _, rfl, hk⟩
  obtain ⟨ho, q, r⟩ := w.ob k ob e hne
  exact ⟨ho, by rw [upd_ne (ne_of_none q hp)]; exact q, r.tr (Tr.of_le fz (fun _ _ => rfl) (Nat.le_refl _))⟩
theorem Fz.new (w : Wf K H μ Ω) {p : Addr} {o : HO} (hp : H p = none) (nt : NoT o := by (intro _ z; cases z; done)) : Fz (upd H p o) μ Ω p = some o := Fz.mk upd_same (w.freshO hp) nt
theorem pushM_lt {k : Nat} {p : Addr} (h : k < n) : pushM μ n p k = μ k := if_neg (Nat.ne_of_lt h)
theorem pushM_eq {p : Addr} : pushM μ n p n = p := if_pos rfl
theorem alive_push {ob : Ob} {k : Nat} (h : Alive (Ω ++ [ob]) k) : (k < Ω.length ∧ Alive Ω k) ∨ (k = Ω.length ∧ ob ≠ .dead) := by
  obtain ⟨o, e, hne⟩ := h
  by_cases hk : k < Ω.length
  · rw [List.getElem?_append_left hk] at e
    exact .inl ⟨hk, o, e, hne⟩
  · have hl := (List.getElem?_eq_some_iff.mp e).1
    rw [List.length_append, List.length_singleton] at hl
    have hk2 : k = Ω.length := by omega
    subst hk2
    rw [List.getElem?_append_right (Nat.le_refl _), Nat.sub_self] at e
    have e2 : some ob = some o := e
    exact .inr ⟨rfl, by rw [Option.some.inj e2]; exact hne⟩
theorem Alive.lt {k : Nat} (h : Alive Ω k) : k < Ω.length := let ⟨_, e, _⟩ := h; (List.getElem?_eq_some_iff.mp e).1
theorem Alive.push {k : Nat} {ob : Ob} (h : Alive Ω k) : Alive (Ω ++ [ob]) k := let ⟨o, e, hn⟩ := h; ⟨o, by rw [List.getElem?_append_left h.lt]; exact e, hn⟩
theorem Ext.push (w : Wf K H μ Ω) {p : Addr} {ho : HO} {ob : Ob} (hp : H p = none) (hr : ORep K (Fz H μ Ω) μ Ω.length ob ho) :
    Ext K H μ Ω (upd H p ho) (pushM μ Ω.length p) (Ω ++ [ob]) := by
  have fz : ∀ a u, Fz H μ Ω a = some u → Fz (upd H p ho) (pushM μ Ω.length p) (Ω ++ [ob]) a = some u := fun a u h => by
    obtain ⟨h1, h2⟩ := Fz.of h
    refine Fz.mk (by rw [upd_ne (ne_of_none h1 hp)]; exact h1) ⟨fun k hk => ?_, h2.2⟩
    rcases alive_push hk with ⟨hl, ha⟩ | ⟨e, _⟩
    · rw [pushM_lt hl]; exact h2.1 k ha
    · rw [e, pushM_eq]; exact (ne_of_none h1 hp).symm
  have mu : ∀ k, k < Ω.length → pushM μ Ω.length p k = μ k := fun k hk => pushM_lt hk
  have len : Ω.length ≤ (Ω ++ [ob]).length := by rw [List.length_append]; omega
  have hk : ∀ a, a ∈ μ.hid → upd H p ho a = H a := fun a ha => upd_ne (fun e => w.hne a ha (by rw [e]; exact hp))
  have t : Tr K (Fz H μ Ω) μ Ω.length (Fz (upd H p ho) (pushM μ Ω.length p) (Ω ++ [ob])) (pushM μ Ω.length p) (Ω ++ [ob]).length := Tr.of_le fz mu len
  refine ⟨⟨fun j k hj hk e => ?_, fun k o e hne => ?_, fun a ha => by rw [hk a ha]; exact w.hin a ha, fun k hk' hh => ?_, tabs_new w.tab hp⟩, fz, mu, len, rfl, hk⟩
  · rcases alive_push hj with ⟨l1, a1⟩ | ⟨e1, _⟩ <;> rcases alive_push hk with ⟨l2, a2⟩ | ⟨e2, _⟩
    · rw [pushM_lt l1, pushM_lt l2] at e; exact w.inj j k a1 a2 e
    · rw [pushM_lt l1, e2, pushM_eq] at e; exact absurd e (w.fresh hp a1)
    · rw [pushM_lt l2, e1, pushM_eq] at e; exact absurd e.symm (w.fresh hp a2)
    · rw [e1, e2]
  · rcases alive_push ⟨o, e, hne⟩ with ⟨l1, a1⟩ | ⟨e1, _⟩
    · rw [List.getElem?_append_left l1] at e
      obtain ⟨h0, q, r⟩ := w.ob k o e hne
      exact ⟨h0, by rw [pushM_lt l1, upd_ne (ne_of_none q hp)]; exact q, r.tr t⟩
    · subst e1
      rw [List.getElem?_append_right (Nat.le_refl _), Nat.sub_self] at e
      have e2 : ob = o := Option.some.inj e
      subst e2
      exact ⟨ho, by rw [pushM_eq]; exact upd_same, hr.tr t⟩
  · rcases alive_push hk' with ⟨l1, a1⟩ | ⟨e1, _⟩
    · rw [pushM_lt l1] at hh; exact w.hof k a1 hh
    · rw [e1, pushM_eq] at hh; exact w.hne p hh hp
theorem alive_set {ob : Ob} {j k : Nat} (h : Alive (Ω.set j ob) k) : (k ≠ j ∧ Alive Ω k) ∨ (k = j ∧ j < Ω.length ∧ ob ≠ .dead) := by
  obtain ⟨o, e, hne⟩ := h
  by_cases hk : k = j
  · subst hk
    have hl := (List.getElem?_eq_some_iff.mp e).1
    rw [List.length_set] at hl
    rw [List.getElem?_set_self hl] at e
    exact .inr ⟨rfl, hl, by rw [Option.some.inj e]; exact hne⟩
  · rw [List.getElem?_set_ne (Ne.symm hk)] at e
    exact .inl ⟨hk, o, e, hne⟩
theorem Wf.aliveM (w : Wf K H μ Ω) {k : Nat} (ha : Alive Ω k) : ∀ u, H (μ k) = some u → MutN (some u) := fun u e => by
  obtain ⟨o, eo, hn⟩ := ha
  obtain ⟨ho, h1, r⟩ := w.ob k o eo hn
  rw [e] at h1
  cases h1
  exact r.mut
theorem Ext.put (w : Wf K H μ Ω) {k : Nat} {ho : HO} {ob : Ob} (ha : Alive Ω k) (hne : ob ≠ .dead) (hr : ORep K (Fz H μ Ω) μ Ω.length ob ho) :
    Ext K H μ Ω (upd H (μ k) ho) μ (Ω.set k ob) := by
  have q : ∀ i, Alive (Ω.set k ob) i → Alive Ω i := fun i hi => by
    rcases alive_set hi with ⟨_, a1⟩ | ⟨e1, _, _⟩
    · exact a1
    · rw [e1]; exact ha
  have fz : ∀ a u, Fz H μ Ω a = some u → Fz (upd H (μ k) ho) μ (Ω.set k ob) a = some u := fun a u h => by
    obtain ⟨h1, h2⟩ := Fz.of h
    exact Fz.mk (by rw [upd_ne (fun z => h2.1 k ha z.symm)]; exact h1) ⟨fun j hj => h2.1 j (q j hj), h2.2⟩
  have len : (Ω.set k ob).length = Ω.length := List.length_set ..
  have hk : ∀ a, a ∈ μ.hid → upd H (μ k) ho a = H a := fun a h => upd_ne (fun e => w.hof k ha (by rw [← e]; exact h))
  have t : Tr K (Fz H μ Ω) μ Ω.length (Fz (upd H (μ k) ho) μ (Ω.set k ob)) μ (Ω.set k ob).length := Tr.of_le fz (fun _ _ => rfl) (Nat.le_of_eq len.symm)
  refine ⟨⟨fun i j hi hj e => w.inj i j (q i hi) (q j hj) e, fun j o e hn => ?_, fun a h => by rw [hk a h]; exact w.hin a h, fun j hj => w.hof j (q j hj), tabs_upd w.tab (w.aliveM ha)⟩, fz, fun _ _ => rfl, Nat.le_of_eq len.symm, rfl, hk⟩
  rcases alive_set ⟨o, e, hn⟩ with ⟨ne, a1⟩ | ⟨e1, hl, _⟩
  · rw [List.getElem?_set_ne (Ne.symm ne)] at e
    obtain ⟨h0, q, r⟩ := w.ob j o e hn
    exact ⟨h0, by rw [upd_ne (fun z => ne (w.inj j k a1 ha z))]; exact q, r.tr t⟩
  · subst e1
    rw [List.getElem?_set_self hl] at e
    have e2 : ob = o := Option.some.inj e
    subst e2
    exact ⟨ho, upd_same, hr.tr t⟩
theorem Ext.retire (w : Wf K H μ Ω) {k : Nat} (ha : Alive Ω k) (o : HO) : Ext K H μ Ω (upd H (μ k) o) μ (Ω.set k .dead) := by
  have q : ∀ i, Alive (Ω.set k .dead) i → Alive Ω i ∧ i ≠ k := fun i hi => by
    rcases alive_set hi with ⟨ne, a1⟩ | ⟨_, _, e⟩
    · exact ⟨a1, ne⟩
    · exact absurd rfl e
  have fz : ∀ a u, Fz H μ Ω a = some u → Fz (upd H (μ k) o) μ (Ω.set k .dead) a = some u := fun a u h => by
    obtain ⟨h1, h2⟩ := Fz.of h
    exact Fz.mk (by rw [upd_ne (fun z => h2.1 k ha z.symm)]; exact h1) ⟨fun j hj => h2.1 j (q j hj).1, h2.2⟩
  have len : (Ω.set k .dead).length = Ω.length := List.length_set ..
  have hk : ∀ a, a ∈ μ.hid → upd H (μ k) o a = H a := fun a h => upd_ne (fun e => w.hof k ha (by rw [← e]; exact h))
  have t : Tr K (Fz H μ Ω) μ Ω.length (Fz (upd H (μ k) o) μ (Ω.set k .dead)) μ (Ω.set k .dead).length := Tr.of_le fz (fun _ _ => rfl) (Nat.le_of_eq len.symm)
  refine ⟨⟨fun i j hi hj e => w.inj i j (q i hi).1 (q j hj).1 e, fun j ob e hn => ?_, fun a h => by rw [hk a h]; exact w.hin a h, fun j hj => w.hof j (q j hj).1, tabs_upd w.tab (w.aliveM ha)⟩, fz, fun _ _ => rfl, Nat.le_of_eq len.symm, rfl, hk⟩
  obtain ⟨a1, ne⟩ := q j ⟨ob, e, hn⟩
  rw [List.getElem?_set_ne (Ne.symm ne)] at e
  obtain ⟨h0, q0, r⟩ := w.ob j ob e hn
  exact ⟨h0, by rw [upd_ne (fun z => ne (w.inj j k a1 ha z))]; exact q0, r.tr t⟩
theorem Fz.retire (w : Wf K H μ Ω) {k : Nat} (ha : Alive Ω k) (o : HO) (nt : NoT o := by (intro _ z; cases z; done)) : Fz (upd H (μ k) o) μ (Ω.set k .dead) (μ k) = some o := by
  refine Fz.mk upd_same ⟨fun j hj => ?_, w.hof k ha⟩ nt
  rcases alive_set hj with ⟨ne, a1⟩ | ⟨_, _, e⟩
  · exact fun z => ne (w.inj j k a1 ha z)
  · exact absurd rfl e
theorem upd_id {p : Addr} {o : HO} (h : H p = some o) : upd H p o = H := by
  funext a
  by_cases e : a = p
  · rw [e, upd_same, h]
  · rw [upd_ne e]
theorem Ext.freeze (w : Wf K H μ Ω) {k : Nat} (ha : Alive Ω k) : Ext K H μ Ω H μ (Ω.set k .dead) := by
  obtain ⟨o, h⟩ := w.alive ha
  have := Ext.retire w ha o
  rw [upd_id h] at this
  exact this
theorem Fz.freeze (w : Wf K H μ Ω) {k : Nat} {ho : HO} (ha : Alive Ω k) (h : H (μ k) = some ho) : Fz H μ (Ω.set k .dead) (μ k) = some ho := by
  have := Fz.retire w ha ho (by
    have m := w.aliveM ha ho h
    intro ps z
    rw [z] at m
    exact m)
  rw [upd_id h] at this
  exact this
theorem Fz.tup (w : Wf K H μ Ω) {p : Addr} {vs : List V} (h : H p = some (.tup vs)) : Fz H μ Ω p = some (.tup vs) := by
  refine Fz.mk h ⟨fun k ⟨o, eo, hne⟩ z => ?_, fun z => ?_⟩
  · obtain ⟨ho, h1, r⟩ := w.ob k o eo hne
    rw [z, h] at h1
    cases h1
    cases o with
    | dead => exact hne rfl
    | lst xs => obtain ⟨_, e, _⟩ := r; cases e
    | dk xs => obtain ⟨_, e, _⟩ := r; cases e
    | dt xs => obtain ⟨_, e, _⟩ := r; cases e
    | ins c xs => obtain ⟨_, _, e, _⟩ := r; cases e
  · have := w.hin p z
    rw [h] at this
    exact this
theorem Fz.hide (w : Wf K H μ Ω) {p : Addr} {o : HO} (hp : H p = none) : Fz (upd H p o) (μ.hide p) Ω = Fz H μ Ω := by
  funext a
  by_cases e : a = p
  · subst e
    unfold Fz
    rw [if_pos (mem_addrs.mpr (.inr (List.mem_cons_self ..)))]
    split
    · rfl
    · rw [hp]; rfl
  · have hm : a ∈ addrs (μ.hide p) Ω ↔ a ∈ addrs μ Ω := by
      rw [mem_addrs, mem_addrs]
      show _ ∨ a ∈ p :: μ.hid ↔ _
      rw [List.mem_cons]
      constructor
      · rintro (h | h | h)
        · exact .inl h
        · exact absurd h e
        · exact .inr h
      · rintro (h | h)
        · exact .inl h
        · exact .inr (.inr h)
    unfold Fz
    by_cases h : a ∈ addrs μ Ω
    · rw [if_pos h, if_pos (hm.mpr h)]
    · rw [if_neg h, if_neg (fun z => h (hm.mp z)), upd_ne e]
theorem Wf.hide (w : Wf K H μ Ω) {p : Addr} {o : HO} (hp : H p = none) (hm : MutN (some o)) : Wf K (upd H p o) (μ.hide p) Ω := by
  refine ⟨w.inj, fun k ob e hne => ?_, fun a ha => ?_, fun k hk hh => ?_, tabs_new w.tab hp⟩
  · obtain ⟨ho, q, r⟩ := w.ob k ob e hne
    rw [Fz.hide w hp]
    exact ⟨ho, by show upd H p o (μ k) = _; rw [upd_ne (ne_of_none q hp)]; exact q, ORep.tr (μ := μ) (Tr.of_le (μ := μ) (μ' := μ.hide p) (fun _ _ h => h) (fun _ _ => rfl) (Nat.le_refl _)) r⟩
  · by_cases e : a = p
    · rw [e, upd_same]; exact hm
    · rw [upd_ne e]
      rcases List.mem_cons.mp ha with z | z
      · exact absurd z e
      · exact w.hin a z
  · rcases List.mem_cons.mp hh with z | z
    · exact w.fresh hp hk z
    · exact w.hof k hk z
theorem Fz.hidden {p : Addr} {o : HO} (hp : p ∈ μ.hid) : Fz (upd H p o) μ Ω = Fz H μ Ω := by
  funext a
  by_cases e : a = p
  · subst e
    unfold Fz
    rw [if_pos (mem_addrs.mpr (.inr hp)), if_pos (mem_addrs.mpr (.inr hp))]
  · unfold Fz
    rw [upd_ne e]
theorem Wf.hidM (w : Wf K H μ Ω) {p : Addr} (hp : p ∈ μ.hid) : ∀ u, H p = some u → MutN (some u) := fun u e => by rw [← e]; exact w.hin p hp
theorem Wf.rehide (w : Wf K H μ Ω) {p : Addr} {o : HO} (hp : p ∈ μ.hid) (hm : MutN (some o)) : Wf K (upd H p o) μ Ω := by
  refine ⟨w.inj, fun k ob e hne => ?_, fun a ha => ?_, w.hof, tabs_upd w.tab (w.hidM hp)⟩
  · obtain ⟨ho, q, r⟩ := w.ob k ob e hne
    rw [Fz.hidden hp]
    exact ⟨ho, by rw [upd_ne (fun z => w.hof k ⟨ob, e, hne⟩ (by rw [z]; exact hp))]; exact q, r⟩
  · by_cases e : a = p
    · rw [e, upd_same]; exact hm
    · rw [upd_ne e]; exact w.hin a ha
theorem Ext.rehide {p : Addr} {o o' : HO} (e : Ext K (upd H p o) μ Ω H' μ' Ω') (hp : p ∈ μ.hid) (hm : MutN (some o')) : Ext K (upd H p o') μ Ω (upd H' p o') μ' Ω' := by
  have hp' : p ∈ μ'.hid := by rw [e.hid]; exact hp
  refine ⟨e.wf.rehide hp' hm, fun a u h => ?_, e.mu, e.len, e.hid, fun a ha => ?_⟩
  · rw [Fz.hidden hp']
    rw [Fz.hidden hp] at h
    exact e.fz a u (by rw [Fz.hidden hp]; exact h)
  · by_cases z : a = p
    · rw [z, upd_same, upd_same]
    · rw [upd_ne z, upd_ne z, e.hkp a ha, upd_ne z]
theorem Lat.hid {p : Addr} {o : HO} (w : Wf K H μ Ω) (hp : H p = none) (e : Ext K (upd H p o) (μ.hide p) Ω H' μ' Ω') : Lat K H μ Ω H' μ' Ω' :=
  ⟨e.wf, fun a u h => e.fz a u (by rw [Fz.hide w hp]; exact h), e.mu, e.len⟩
theorem Ext.unhide {p : Addr} {o o' : HO} (w : Wf K H μ Ω) (hp : H p = none) (e : Ext K (upd H p o) (μ.hide p) Ω H' μ' Ω') : Ext K H μ Ω (upd H' p o') μ'.show Ω' := by
  have hh : μ'.hid = p :: μ.hid := e.hid
  have hs : μ'.show.hid = μ.hid := by show μ'.hid.tail = _; rw [hh]; rfl
  have hp' : p ∈ μ'.hid := by rw [hh]; exact List.mem_cons_self ..
  have pn : p ∉ μ.hid := fun z => w.hne p z hp
  have fz : ∀ a u, Fz H' μ' Ω' a = some u → Fz (upd H' p o') μ'.show Ω' a = some u := fun a u h => by
    obtain ⟨h1, h2⟩ := Fz.of h
    have ne : a ≠ p := fun z => h2.2 (by rw [z]; exact hp')
    refine Fz.mk (by rw [upd_ne ne]; exact h1) ⟨h2.1, fun z => h2.2 ?_⟩
    rw [hs] at z
    rw [hh]
    exact List.mem_cons_of_mem _ z
  refine ⟨⟨e.wf.inj, fun k ob eo hne => ?_, fun a ha => ?_, fun k hk z => ?_, tabs_upd e.wf.tab (e.wf.hidM hp')⟩, fun a u h => ?_, e.mu, e.len, hs, fun a ha => ?_⟩
  · obtain ⟨ho, q, r⟩ := e.wf.ob k ob eo hne
    have ne : μ' k ≠ p := fun z => e.wf.hof k ⟨ob, eo, hne⟩ (by rw [z]; exact hp')
    exact ⟨ho, by show upd H' p o' (μ' k) = _; rw [upd_ne ne]; exact q, ORep.tr (μ := μ') (Tr.of_le (μ := μ') (μ' := μ'.show) fz (fun _ _ => rfl) (Nat.le_refl _)) r⟩
  · have z : a ≠ p := fun z => by rw [hs, z] at ha; exact pn ha
    · rw [upd_ne z]
      rw [hs] at ha
      exact e.wf.hin a (by rw [hh]; exact List.mem_cons_of_mem _ ha)
  · rw [hs] at z
    exact e.wf.hof k hk (by rw [hh]; exact List.mem_cons_of_mem _ z)
  · exact fz a u (e.fz a u (by rw [Fz.hide w hp]; exact h))
  · have ne : a ≠ p := fun z => pn (by rw [← z]; exact ha)
    rw [upd_ne ne, e.hkp a (List.mem_cons_of_mem _ ha), upd_ne ne]
theorem Tr.unhide {p : Addr} {o o' : HO} (w : Wf K H μ Ω) (hp : H p = none) (e : Ext K (upd H p o) (μ.hide p) Ω H' μ' Ω') : Tr K (Fz H' μ' Ω') μ' Ω'.length (Fz (upd H' p o') μ'.show Ω') μ'.show Ω'.length := by
  have hh : μ'.hid = p :: μ.hid := e.hid
  have hs : μ'.show.hid = μ.hid := by show μ'.hid.tail = _; rw [hh]; rfl
  refine Tr.of_le (fun a u h => ?_) (fun _ _ => rfl) (Nat.le_refl _)
  obtain ⟨h1, h2⟩ := Fz.of h
  have ne : a ≠ p := fun z => h2.2 (by rw [z, hh]; exact List.mem_cons_self ..)
  refine Fz.mk (by rw [upd_ne ne]; exact h1) ⟨h2.1, fun z => h2.2 ?_⟩
  rw [hs] at z
  rw [hh]
  exact List.mem_cons_of_mem _ z
theorem Fz.unhide {p : Addr} {o o' : HO} (w : Wf K H μ Ω) (hp : H p = none) (e : Ext K (upd H p o) (μ.hide p) Ω H' μ' Ω') (nt : NoT o' := by (intro _ z; cases z; done)) : Fz (upd H' p o') μ'.show Ω' p = some o' := by
  have hh : μ'.hid = p :: μ.hid := e.hid
  have hs : μ'.show.hid = μ.hid := by show μ'.hid.tail = _; rw [hh]; rfl
  refine Fz.mk upd_same ⟨fun k hk z => e.wf.hof k hk (by rw [hh, ← z]; exact List.mem_cons_self ..), fun z => ?_⟩ nt
  rw [hs] at z
  exact w.hne p z hp
theorem Ext.hidpush {p : Addr} {o ho : HO} {ob : Ob} (w : Wf K H μ Ω) (hp : H p = none) (e : Ext K (upd H p o) (μ.hide p) Ω H' μ' Ω') (h' : H' p = some ho) (hr : ORep K (Fz H' μ' Ω') μ' Ω'.length ob ho) :
    Ext K H μ Ω H' (pushM μ'.show Ω'.length p) (Ω' ++ [ob]) := by
  have hh : μ'.hid = p :: μ.hid := e.hid
  have hs : (pushM μ'.show Ω'.length p).hid = μ.hid := by show μ'.hid.tail = _; rw [hh]; rfl
  have hp' : p ∈ μ'.hid := by rw [hh]; exact List.mem_cons_self ..
  have pn : p ∉ μ.hid := fun z => w.hne p z hp
  have mu : ∀ k, k < Ω'.length → (pushM μ'.show Ω'.length p) k = μ' k := fun k hk => pushM_lt (μ := μ'.show) hk
  have fz : ∀ a u, Fz H' μ' Ω' a = some u → Fz H' (pushM μ'.show Ω'.length p) (Ω' ++ [ob]) a = some u := fun a u h => by
    obtain ⟨h1, h2⟩ := Fz.of h
    have ne : a ≠ p := fun z => h2.2 (by rw [z]; exact hp')
    refine Fz.mk h1 ⟨fun k hk => ?_, fun z => h2.2 ?_⟩
    · rcases alive_push hk with ⟨hl, ha⟩ | ⟨e1, _⟩
      · rw [mu k hl]; exact h2.1 k ha
      · rw [e1, pushM_eq]; exact ne.symm
    · rw [hs] at z
      rw [hh]
      exact List.mem_cons_of_mem _ z
  have len : Ω'.length ≤ (Ω' ++ [ob]).length := by rw [List.length_append]; omega
  have t : Tr K (Fz H' μ' Ω') μ' Ω'.length (Fz H' (pushM μ'.show Ω'.length p) (Ω' ++ [ob])) (pushM μ'.show Ω'.length p) (Ω' ++ [ob]).length := Tr.of_le fz mu len
  refine ⟨⟨fun j k hj hk q => ?_, fun k u eo hne => ?_, fun a ha => ?_, fun k hk z => ?_, e.wf.tab⟩, fun a u h => ?_, fun k hk => ?_, Nat.le_trans e.len len, hs, fun a ha => ?_⟩
  · rcases alive_push hj with ⟨l1, a1⟩ | ⟨e1, _⟩ <;> rcases alive_push hk with ⟨l2, a2⟩ | ⟨e2, _⟩
    · rw [mu j l1, mu k l2] at q; exact e.wf.inj j k a1 a2 q
    · rw [mu j l1, e2, pushM_eq] at q; exact absurd (q ▸ hp') (e.wf.hof j a1)
    · rw [mu k l2, e1, pushM_eq] at q; exact absurd (q ▸ hp') (e.wf.hof k a2)
    · rw [e1, e2]
  · rcases alive_push ⟨u, eo, hne⟩ with ⟨l1, a1⟩ | ⟨e1, _⟩
    · rw [List.getElem?_append_left l1] at eo
      obtain ⟨h0, q, r⟩ := e.wf.ob k u eo hne
      exact ⟨h0, by rw [mu k l1]; exact q, r.tr t⟩
    · subst e1
      rw [List.getElem?_append_right (Nat.le_refl _), Nat.sub_self] at eo
      have e2 : ob = u := Option.some.inj eo
      subst e2
      exact ⟨ho, by rw [pushM_eq]; exact h', hr.tr t⟩
  · rw [hs] at ha
    exact e.wf.hin a (by rw [hh]; exact List.mem_cons_of_mem _ ha)
  · rw [hs] at z
    rcases alive_push hk with ⟨l1, a1⟩ | ⟨e1, _⟩
    · rw [mu k l1] at z; exact e.wf.hof k a1 (by rw [hh]; exact List.mem_cons_of_mem _ z)
    · rw [e1, pushM_eq] at z; exact pn z
  · exact fz a u (e.fz a u (by rw [Fz.hide w hp]; exact h))
  · rw [mu k (Nat.lt_of_lt_of_le hk e.len)]
    exact e.mu k hk
  · have ne : a ≠ p := fun z => pn (by rw [← z]; exact ha)
    rw [e.hkp a (List.mem_cons_of_mem _ ha), upd_ne ne]
end
section
variable {K : Frg} {G : Hp} {μ : Mu} {n : Nat}
theorem Reps.length : ∀ {ds : List D} {vs : List V}, Reps K G μ n ds vs → vs.length = ds.length
  | [], vs, h => by simp only [Reps] at h; rw [h]; rfl
  | d :: ds, vs, h => by
    simp only [Reps] at h
    obtain ⟨v, ws, e, _, r⟩ := h
    rw [e, List.length_cons, List.length_cons, Reps.length r]
theorem Reps.get : ∀ {ds : List D} {vs : List V} {i : Nat} {d : D}, Reps K G μ n ds vs → ds[i]? = some d → ∃ v, vs[i]? = some v ∧ Rep K G μ n d v
  | [], _, _, _, _, e => by simp at e
  | d :: ds, vs, 0, d', h, e => by
    simp only [Reps] at h
    obtain ⟨v, ws, rfl, r, _⟩ := h
    simp at e
    subst e
    exact ⟨v, rfl, r⟩
  | d :: ds, vs, i + 1, d', h, e => by
    simp only [Reps] at h
    obtain ⟨v, ws, rfl, _, r⟩ := h
    exact Reps.get (i := i) r (by simpa using e)
theorem Reps.append : ∀ {ds es : List D} {vs ws : List V}, Reps K G μ n ds vs → Reps K G μ n es ws → Reps K G μ n (ds ++ es) (vs ++ ws)
  | [], es, vs, ws, h, r => by simp only [Reps] at h; rw [h]; exact r
  | d :: ds, es, vs, ws, h, r => by
    simp only [Reps] at h
    obtain ⟨v, us, rfl, r1, r2⟩ := h
    show Reps K G μ n (d :: (ds ++ es)) (v :: (us ++ ws))
    simp only [Reps]
    exact ⟨v, _, rfl, r1, Reps.append r2 r⟩
theorem Reps.one {d : D} {v : V} (h : Rep K G μ n d v) : Reps K G μ n [d] [v] := by
  simp only [Reps]
  exact ⟨v, [], rfl, h, rfl⟩
theorem Reps.cons {d : D} {v : V} {ds : List D} {vs : List V} (h : Rep K G μ n d v) (r : Reps K G μ n ds vs) : Reps K G μ n (d :: ds) (v :: vs) := by
  simp only [Reps]
  exact ⟨v, vs, rfl, h, r⟩
theorem Reps.nil : Reps K G μ n [] [] := by simp only [Reps]
theorem Reps.drop : ∀ {ds : List D} {vs : List V} (i : Nat), Reps K G μ n ds vs → Reps K G μ n (ds.drop i) (vs.drop i)
  | _, _, 0, h => h
  | [], vs, i + 1, h => by simp only [Reps] at h; rw [h]; simpa using Reps.nil
  | d :: ds, vs, i + 1, h => by
    simp only [Reps] at h
    obtain ⟨v, us, rfl, r1, r2⟩ := h
    exact Reps.drop i r2
theorem Reps.take : ∀ {ds : List D} {vs : List V} (i : Nat), Reps K G μ n ds vs → Reps K G μ n (ds.take i) (vs.take i)
  | _, _, 0, h => by simpa using Reps.nil
  | [], vs, i + 1, h => by simp only [Reps] at h; rw [h]; simpa using Reps.nil
  | d :: ds, vs, i + 1, h => by
    simp only [Reps] at h
    obtain ⟨v, us, rfl, r1, r2⟩ := h
    exact Reps.cons r1 (Reps.take i r2)
theorem Reps.set {d : D} {v : V} (h : Rep K G μ n d v) : ∀ {ds : List D} {vs : List V} (i : Nat), Reps K G μ n ds vs → Reps K G μ n (ds.set i d) (vs.set i v)
  | [], vs, i, r => by simp only [Reps] at r; rw [r]; simpa using Reps.nil
  | e :: ds, vs, 0, r => by
    simp only [Reps] at r
    obtain ⟨u, us, rfl, r1, r2⟩ := r
    exact Reps.cons h r2
  | e :: ds, vs, i + 1, r => by
    simp only [Reps] at r
    obtain ⟨u, us, rfl, r1, r2⟩ := r
    exact Reps.cons r1 (Reps.set h i r2)
end
end Rf
end
section
namespace Rf
open PySem L2
theorem REnv.tr {K : Frg} {G G' : Hp} {μ μ' : Mu} {n n' : Nat} (t : Tr K G μ n G' μ' n') {ρ : Env} {σ : St} (h : REnv K G μ n ρ σ) : REnv K G' μ' n' ρ σ :=
  ⟨h.1, fun i d e => let ⟨v, e1, r⟩ := h.2 i d e; ⟨v, e1, Rep.tr t d v r⟩⟩
theorem REnv.set {K : Frg} {G : Hp} {μ : Mu} {n : Nat} {ρ : Env} {σ : St} (h : REnv K G μ n ρ σ) (i : Nat) {d : D} {v : V} (r : Rep K G μ n d v) : REnv K G μ n (ρ.set i (some d)) (σ.set i (some v)) := by
  refine ⟨by rw [List.length_set, List.length_set]; exact h.1, fun j d' e => ?_⟩
  by_cases hj : j = i
  · subst hj
    have hl := (List.getElem?_eq_some_iff.mp e).1
    rw [List.length_set] at hl
    rw [List.getElem?_set_self hl] at e
    cases e
    exact ⟨v, List.getElem?_set_self (by rw [← h.1]; exact hl), r⟩
  · rw [List.getElem?_set_ne (Ne.symm hj)] at e
    obtain ⟨u, e1, r1⟩ := h.2 j d' e
    exact ⟨u, by rw [List.getElem?_set_ne (Ne.symm hj)]; exact e1, r1⟩
theorem REnv.unset {K : Frg} {G : Hp} {μ : Mu} {n : Nat} {ρ : Env} {σ : St} (h : REnv K G μ n ρ σ) (i : Nat) : REnv K G μ n (ρ.set i none) (σ.set i none) := by
  refine ⟨by rw [List.length_set, List.length_set]; exact h.1, fun j d' e => ?_⟩
  by_cases hj : j = i
  · subst hj
    have hl := (List.getElem?_eq_some_iff.mp e).1
    rw [List.length_set] at hl
    rw [List.getElem?_set_self hl] at e
    cases e
  · rw [List.getElem?_set_ne (Ne.symm hj)] at e
    obtain ⟨u, e1, r1⟩ := h.2 j d' e
    exact ⟨u, by rw [List.getElem?_set_ne (Ne.symm hj)]; exact e1, r1⟩
theorem REnv.wipe {K : Frg} {G : Hp} {μ : Mu} {n : Nat} {ρ : Env} {σ : St} (h : REnv K G μ n ρ σ) : ∀ vs : List Nat, REnv K G μ n (wipeD ρ vs) (wipe σ vs)
  | [] => h
  | v :: vs => (h.wipe vs).unset v
section
variable {K : Frg} {W : WX} {σ : St} {H H' : Hp} {μ μ' : Mu} {Ω Ω' : Sto} {ρ : Env} {α β γ δ : Type}
theorem At.ext (a : At K σ H μ Ω ρ) (e : Ext K H μ Ω H' μ' Ω') : At K σ H' μ' Ω' ρ := ⟨e.wf, a.env.tr e.tr⟩
theorem Post.mono {rel : Rl α β} {r : R α} {Q Q' : β → Hp → Prop} (h : ∀ b H', Q b H' → Q' b H') (p : Post K rel W σ H μ Ω r Q) : Post K rel W σ H μ Ω r Q' := by
  cases r with
  | ok a Ω' => exact fun b H' μ' e q => h b H' (p b H' μ' e q)
  | ex x Ω' => exact p
  | bad => exact p
theorem Post.bind {rel : Rl α β} {rel' : Rl γ δ} {r : R α} {f : α → Sto → R γ} {Q : δ → Hp → Prop} (p : Post K rel' W σ H μ Ω (r.bind f) Q) :
    Post K rel W σ H μ Ω r (fun b H1 => ∃ μ1 Ω1 a, r = .ok a Ω1 ∧ Ext K H μ Ω H1 μ1 Ω1 ∧ rel H1 μ1 Ω1 a b ∧ Post K rel' W σ H1 μ1 Ω1 (f a Ω1) Q) := by
  cases r with
  | ok a Ω' =>
    intro b H' μ' e q
    refine ⟨μ', Ω', a, rfl, e, q, ?_⟩
    have p' : Post K rel' W σ H μ Ω (f a Ω') Q := p
    cases hf : f a Ω' with
    | ok c Ω2 =>
      rw [hf] at p'
      exact fun b H2 μ2 e2 q2 => p' b H2 μ2 (e.trans e2) q2
    | ex x Ω2 =>
      rw [hf] at p'
      exact fun d H2 μ2 e2 q2 => p' d H2 μ2 (e.trans e2) q2
    | bad =>
      rw [hf] at p'
      exact p'
  | ex x Ω' => exact p
  | bad => exact p
theorem Post.here {rel : Rl α β} {a : α} {Q : β → Hp → Prop} (p : Post K rel W σ H μ Ω (.ok a Ω) Q) (w : Wf K H μ Ω) {b : β} (r : rel H μ Ω a b) : Q b H := p b H μ (Ext.refl w) r
theorem Post.at_ {rel : Rl α β} {a : α} {Q : β → Hp → Prop} (p : Post K rel W σ H μ Ω (.ok a Ω') Q) {b : β} (e : Ext K H μ Ω H' μ' Ω') (r : rel H' μ' Ω' a b) : Q b H' := p b H' μ' e r
theorem Post.ne {rel : Rl α β} {Q : β → Hp → Prop} (p : Post K rel W σ H μ Ω (.bad : R α) Q) {P : Prop} : P := False.elim p
end
section
variable {K : Frg} {W : WX} {σ : St} {H H' : Hp} {μ μ' : Mu} {Ω Ω' : Sto} {ρ : Env} {α β γ δ : Type}
theorem PostS.ext {r : RS} {D : Ends} (e : Ext K H μ Ω H' μ' Ω') (p : PostS K W H μ Ω r D) : PostS K W H' μ' Ω' r D := by
  cases r with
  | ok f Ω2 =>
    cases f with
    | nx ρ => exact fun σ2 H2 μ2 e2 q => p σ2 H2 μ2 (e.trans e2) q
    | bk ρ => exact fun σ2 H2 μ2 e2 q => p σ2 H2 μ2 (e.trans e2) q
    | ct ρ => exact fun σ2 H2 μ2 e2 q => p σ2 H2 μ2 (e.trans e2) q
    | rt d => exact fun v H2 μ2 e2 q => p v H2 μ2 (e.trans e2) q
  | ex x ρ Ω2 => exact fun σ2 d H2 μ2 e2 q q' => p σ2 d H2 μ2 (e.trans e2) q q'
  | bad => exact p
theorem PostS.mono {r : RS} {D D' : Ends} (h1 : ∀ σ H, D.nx σ H → D'.nx σ H) (h2 : ∀ v H, D.rt v H → D'.rt v H) (h3 : ∀ σ H, D.bk σ H → D'.bk σ H) (h4 : ∀ σ H, D.ct σ H → D'.ct σ H) (p : PostS K W H μ Ω r D) : PostS K W H μ Ω r D' := by
  cases r with
  | ok f Ω2 =>
    cases f with
    | nx ρ => exact fun σ2 H2 μ2 e2 q => h1 _ _ (p σ2 H2 μ2 e2 q)
    | bk ρ => exact fun σ2 H2 μ2 e2 q => h3 _ _ (p σ2 H2 μ2 e2 q)
    | ct ρ => exact fun σ2 H2 μ2 e2 q => h4 _ _ (p σ2 H2 μ2 e2 q)
    | rt d => exact fun v H2 μ2 e2 q => h2 _ _ (p v H2 μ2 e2 q)
  | ex x ρ Ω2 => exact p
  | bad => exact p
theorem PostS.st {rel : Rl α β} {r : R α} {f : α → Sto → RS} {D : Ends} (a : At K σ H μ Ω ρ) (p : PostS K W H μ Ω (r.st ρ f) D) :
    Post K rel W σ H μ Ω r (fun b H1 => ∃ μ1 Ω1 x, r = .ok x Ω1 ∧ Ext K H μ Ω H1 μ1 Ω1 ∧ rel H1 μ1 Ω1 x b ∧ PostS K W H1 μ1 Ω1 (f x Ω1) D) := by
  cases r with
  | ok x Ω' => exact fun b H' μ' e q => ⟨μ', Ω', x, rfl, e, q, PostS.ext (r := f x Ω') e p⟩
  | ex x Ω' => exact fun d H' μ' e q => p σ d H' μ' e (a.env.tr e.tr) q
  | bad => exact p
end
section
variable {X : Cx} {e : Expr} {st : Stmt} {sts : List Stmt}
theorem _root_.L2.PE.imp {t t' : TE} (h : PE X e t) (i : ∀ σ H Q, t' σ H Q → t σ H Q) : PE X e t' := ⟨fun pins s σ H Q I q => h.run pins s σ H Q I (i σ H Q q)⟩
theorem _root_.L2.PT.imp {t t' : TT} (h : PT X e t) (i : ∀ σ H Q, t' σ H Q → t σ H Q) : PT X e t' := ⟨fun pins s σ H Q I q => h.run pins s σ H Q I (i σ H Q q)⟩
theorem _root_.L2.PW.imp {t t' : TT} (h : PW X e t) (i : ∀ σ H Q, t' σ H Q → t σ H Q) : PW X e t' := ⟨fun w pins s σ H Q I q => h.run w pins s σ H Q I (i σ H Q q)⟩
theorem _root_.L2.PA.imp {es : List Expr} {t t' : TA} (h : PA X es t) (i : ∀ σ H Q, t' σ H Q → t σ H Q) : PA X es t' := ⟨fun pos pins s σ H Q I q => h.run pos pins s σ H Q I (i σ H Q q)⟩
theorem _root_.L2.PS.imp {t t' : TS} (h : PS X st t) (i : ∀ D σ H, t' D σ H → t D σ H) : PS X st t' := ⟨fun pins s σ H D I q => h.run pins s σ H D I (i D σ H q)⟩
theorem _root_.L2.PSs.imp {t t' : TS} (h : PSs X sts t) (i : ∀ D σ H, t' D σ H → t D σ H) : PSs X sts t' := ⟨fun pins s σ H D I q => h.run pins s σ H D I (i D σ H q)⟩
theorem _root_.L2.PI.imp {tg : Expr} {t t' : TI} (h : PI X tg e t) (i : ∀ σ H Q, t' σ H Q → t σ H Q) : PI X tg e t' := ⟨fun pins s σ H Q I q => h.run pins s σ H Q I (i σ H Q q)⟩
theorem _root_.L2.PI.or {tg : Expr} {t t' : TI} (h : PI X tg e t) (h' : PI X tg e t') : PI X tg e (fun σ H R => t σ H R ∨ t' σ H R) := ⟨fun pins s σ H Q I q => q.elim (h.run pins s σ H Q I) (h'.run pins s σ H Q I)⟩
theorem _root_.L2.PE.or {t t' : TE} (h : PE X e t) (h' : PE X e t') : PE X e (fun σ H R => t σ H R ∨ t' σ H R) := ⟨fun pins s σ H Q I q => q.elim (h.run pins s σ H Q I) (h'.run pins s σ H Q I)⟩
theorem _root_.L2.PS.or {t t' : TS} (h : PS X st t) (h' : PS X st t') : PS X st (fun D σ H => t D σ H ∨ t' D σ H) := ⟨fun pins s σ H Q I q => q.elim (h.run pins s σ H Q I) (h'.run pins s σ H Q I)⟩
theorem _root_.L2.PE.lock {t : TE} (h : PE X e t) : PE X e (fun σ H Q => t σ H fun v H1 => ∃ p u, v = .ref p ∧ H1 p = some u ∧ Mut (some u) ∧ ∀ od, Q v (upd H1 p (.frz od u))) := by
  refine ⟨fun pins s σ H Q I q => thn (h.run pins s σ H _ I q) fun v s1 ⟨x, H1, I1, r1, p, u, e1, e2, m, k⟩ => ?_⟩
  obtain ⟨od, I2⟩ := I1.lock e2 m
  exact ⟨x, _, I2, r1, k od⟩
end
end Rf
end
section
namespace Rf
open PySem L2
theorem big_eq : big = sizeLine := by rw [sizeLine_eq]; rfl
section
variable {K : Frg} {W : WX} {σ : St} {H H' : Hp} {μ μ' : Mu} {Ω Ω' : Sto} {ρ : Env}
theorem Fz.le {a : Addr} {o : HO} (h : Fz H μ Ω a = some o) : H a = some o := (Fz.of h).1
theorem Fz.rd {a : Addr} {u : HO} (h : Rd (Fz H μ Ω) a u) : Rd H a u := by
  rcases h with h | ⟨o, h⟩
  · exact .inl (Fz.le h)
  · exact .inr ⟨o, Fz.le h⟩
theorem Fz.sqt {a : Addr} {vs : List V} (h : SqT K (Fz H μ Ω) a vs) : SqT K H a vs := by
  rcases h with h | h
  · exact .inl (Fz.rd h)
  · exact .inr h
theorem Fz.sql {a : Addr} {vs : List V} (h : SqL K (Fz H μ Ω) a vs) : SqL K H a vs := by
  rcases h with h | h
  · exact .inl (Fz.rd h)
  · exact .inr h
theorem view0 {d : D} {v : V} (h : Rep K (Fz H μ Ω) μ Ω.length d v) : View K H μ Ω d v := by
  cases d with
  | non => simpa [Rep, View] using h
  | bl b => simpa [Rep, View] using h
  | int b => simpa [Rep, View] using h
  | str b => simpa [Rep, View] using h
  | tup xs =>
    have h0 := h
    simp only [Rep] at h
    obtain ⟨p, vs, e, r, z, c⟩ := h
    refine ⟨p, vs, e, r, z, ?_, fun hf => ?_, h0⟩
    · rcases c with c | ⟨_, c⟩
      · exact .inl (.inl (Fz.le c))
      · exact Fz.sqt c
    · rcases c with c | ⟨c, _⟩
      · exact Fz.le c
      · rw [hf] at c; cases c
  | e0 =>
    simp only [Rep] at h
    obtain ⟨p, e, c⟩ := h
    exact ⟨p, e, Fz.sqt c⟩
  | lst xs =>
    simp only [Rep] at h
    obtain ⟨p, vs, e, r, z, c⟩ := h
    exact ⟨p, vs, e, r, z, Fz.le c⟩
  | scr xs =>
    simp only [Rep] at h
    obtain ⟨p, e, z, c⟩ := h
    exact ⟨p, e, z, Fz.sql c⟩
  | dk xs =>
    simp only [Rep] at h
    obtain ⟨p, vs, od, e, r, c⟩ := h
    exact ⟨p, vs, e, r, .inr ⟨od, Fz.le c⟩⟩
  | dt xs =>
    simp only [Rep] at h
    obtain ⟨p, vs, od, e, r, c⟩ := h
    exact ⟨p, vs, e, r, .inr ⟨od, Fz.le c⟩⟩
  | ins c xs =>
    simp only [Rep] at h
    obtain ⟨p, dx, vs, e, r, c⟩ := h
    exact ⟨p, dx, vs, e, r, Fz.le c⟩
  | hd k =>
    simp only [Rep] at h
    exact h.2
  | exn c xs => exact h
theorem view {d : D} {v : V} (w : Wf K H μ Ω) (h : Rep K (Fz H μ Ω) μ Ω.length d v) : View K H μ Ω (lk Ω d) v := by
  cases d with
  | hd k =>
    simp only [Rep] at h
    obtain ⟨_, rfl⟩ := h
    cases e : Ω[k]? with
    | none =>
      have q : lk Ω (.hd k) = .hd k := by simp [lk, e]
      rw [q]
      exact rfl
    | some o =>
      cases o with
      | dead =>
        have q : lk Ω (.hd k) = .hd k := by simp [lk, e]
        rw [q]
        exact rfl
      | lst xs =>
        have q : lk Ω (.hd k) = .lst xs := by simp [lk, e]
        rw [q]
        obtain ⟨ho, h1, vs, rfl, r, z⟩ := w.ob k _ e (by intro z; cases z)
        exact ⟨μ k, vs, rfl, r, z, h1⟩
      | dk xs =>
        have q : lk Ω (.hd k) = .dk xs := by simp [lk, e]
        rw [q]
        obtain ⟨ho, h1, vs, rfl, r⟩ := w.ob k _ e (by intro z; cases z)
        exact ⟨μ k, vs, rfl, r, .inl h1⟩
      | dt xs =>
        have q : lk Ω (.hd k) = .dt xs := by simp [lk, e]
        rw [q]
        obtain ⟨ho, h1, vs, rfl, r⟩ := w.ob k _ e (by intro z; cases z)
        exact ⟨μ k, vs, rfl, r, .inl h1⟩
      | ins c xs =>
        have q : lk Ω (.hd k) = .ins c xs := by simp [lk, e]
        rw [q]
        obtain ⟨ho, h1, dx, vs, rfl, r⟩ := w.ob k _ e (by intro z; cases z)
        exact ⟨μ k, dx, vs, rfl, r, h1⟩
  | _ => exact view0 h
theorem view_seq {d : D} {v : V} {xs : List D} (h : View K H μ Ω d v) (e : seqD d = some xs) : ∃ p vs, v = .ref p ∧ Reps K (Fz H μ Ω) μ Ω.length xs vs ∧ vs.length ≤ sizeLine ∧ (SqL K H p vs ∨ SqT K H p vs) := by
  cases d with
  | lst ys =>
    cases e
    obtain ⟨p, vs, e, r, z, c⟩ := h
    exact ⟨p, vs, e, r, z, .inl (.inl (.inl c))⟩
  | tup ys =>
    cases e
    obtain ⟨p, vs, e, r, z, c, _⟩ := h
    exact ⟨p, vs, e, r, z, .inr c⟩
  | e0 =>
    cases e
    obtain ⟨p, e, c⟩ := h
    exact ⟨p, [], e, Reps.nil, Nat.zero_le _, .inr c⟩
  | scr ns =>
    cases e
    obtain ⟨p, e, z, c⟩ := h
    refine ⟨p, ns.map V.int, e, ?_, ?_, .inl c⟩
    · clear z c
      induction ns with
      | nil => exact Reps.nil
      | cons a l ih => exact Reps.cons (by simp [Rep]) ih
    · rw [List.length_map, sizeLine_eq]; omega
  | _ => cases e
theorem Rep.toVf {x : D} {v : V} (h : Rep K H μ n x v) (f : flatD x = true) : v = toVf x := by
  cases x <;> first | (simp only [Rep] at h; exact h) | cases f
theorem toVf_flat {x : D} (f : flatD x = true) : flatV (Rf.toVf x) = true := by
  cases x <;> first | rfl | cases f
theorem eqV_toVf {x y : D} (f : flatD x = true) (g : flatD y = true) : eqV (Rf.toVf x) (Rf.toVf y) = eqFlat x y := by
  cases x <;> first | (cases y <;> first | rfl | (cases g; done)) | (cases f; done)
theorem Reps.toVf : ∀ {xs : List D} {vs : List V}, Reps K H μ n xs vs → xs.all flatD = true → vs = xs.map Rf.toVf
  | [], vs, h, _ => by
    simp only [Reps] at h
    rw [h]
    rfl
  | d :: ds, vs, h, f => by
    simp only [Reps] at h
    obtain ⟨v, ws, rfl, r, rs⟩ := h
    rw [List.all_cons, Bool.and_eq_true] at f
    rw [r.toVf f.1, Reps.toVf rs f.2]
    rfl
theorem flat_all : ∀ {xs : List D}, xs.all flatD = true → (xs.map Rf.toVf).all flatV = true
  | [], _ => rfl
  | d :: ds, f => by
    rw [List.all_cons, Bool.and_eq_true] at f
    rw [List.map_cons, List.all_cons, toVf_flat f.1, flat_all f.2]
    rfl
theorem inV_toVf {x : D} (fx : flatD x = true) : ∀ {xs : List D}, xs.all flatD = true → inV (Rf.toVf x) (xs.map Rf.toVf) = xs.any fun y => eqFlat y x
  | [], _ => rfl
  | d :: ds, f => by
    rw [List.all_cons, Bool.and_eq_true] at f
    have ih := inV_toVf fx f.2
    unfold inV at ih ⊢
    rw [List.map_cons, List.any_cons, List.any_cons, ih, eqV_toVf f.1 fx]
end
end Rf
end
section
namespace Rf
open PySem L2
section
variable {K : Frg} {W : WX} {σ : St} {H H' : Hp} {μ μ' : Mu} {Ω Ω' : Sto} {ρ : Env} {n : Nat}
theorem res_tup (w : Wf K H μ Ω) {xs : List D} {vs : List V} {p : Addr} (r : Reps K (Fz H μ Ω) μ Ω.length xs vs) (z : vs.length ≤ sizeLine) (hp : H p = none) :
    Ext K H μ Ω (upd H p (.tup vs)) μ Ω ∧ Rep K (Fz (upd H p (.tup vs)) μ Ω) μ Ω.length (.tup xs) (.ref p) := by
  have e := Ext.new (o := .tup vs) w hp
  refine ⟨e, ?_⟩
  simp only [Rep]
  exact ⟨p, vs, rfl, Reps.tr e.tr _ _ r, z, .inl (Fz.new w hp)⟩
theorem res_lst (w : Wf K H μ Ω) {xs : List D} {vs : List V} {p : Addr} (r : Reps K (Fz H μ Ω) μ Ω.length xs vs) (z : vs.length ≤ sizeLine) (hp : H p = none) :
    Ext K H μ Ω (upd H p (.lst vs)) μ Ω ∧ Rep K (Fz (upd H p (.lst vs)) μ Ω) μ Ω.length (.lst xs) (.ref p) := by
  have e := Ext.new (o := .lst vs) w hp
  refine ⟨e, ?_⟩
  simp only [Rep]
  exact ⟨p, vs, rfl, Reps.tr e.tr _ _ r, z, Fz.new w hp⟩
theorem res_dk (w : Wf K H μ Ω) {xs : List (Key × D)} {vs : List (Key × V)} {p : Addr} {od : Obj} (r : RepK K (Fz H μ Ω) μ Ω.length xs vs) (hp : H p = none) :
    Ext K H μ Ω (upd H p (.frz od (.dK vs))) μ Ω ∧ Rep K (Fz (upd H p (.frz od (.dK vs))) μ Ω) μ Ω.length (.dk xs) (.ref p) := by
  have e := Ext.new (o := .frz od (.dK vs)) w hp
  refine ⟨e, ?_⟩
  simp only [Rep]
  exact ⟨p, vs, od, rfl, RepK.tr e.tr _ _ r, Fz.new w hp⟩
theorem res_dt (w : Wf K H μ Ω) {xs : List (List Key × D)} {vs : List (List Key × V)} {p : Addr} {od : Obj} (r : RepT K (Fz H μ Ω) μ Ω.length xs vs) (hp : H p = none) :
    Ext K H μ Ω (upd H p (.frz od (.dT vs))) μ Ω ∧ Rep K (Fz (upd H p (.frz od (.dT vs))) μ Ω) μ Ω.length (.dt xs) (.ref p) := by
  have e := Ext.new (o := .frz od (.dT vs)) w hp
  refine ⟨e, ?_⟩
  simp only [Rep]
  exact ⟨p, vs, od, rfl, RepT.tr e.tr _ _ r, Fz.new w hp⟩
theorem Reps.rep (h : Reps K H μ n xs vs) : ∀ k : Nat, Reps K H μ n (List.replicate k xs).flatten (List.replicate k vs).flatten
  | 0 => Reps.nil
  | k + 1 => by
    rw [List.replicate_succ, List.replicate_succ, List.flatten_cons, List.flatten_cons]
    exact h.append (Reps.rep h k)
theorem Want.now {d : D} {Q : VK} (k : Want K H μ Ω d Q) (w : Wf K H μ Ω) {v : V} (r : Rep K (Fz H μ Ω) μ Ω.length d v) : Q v H := k v H (Ext.refl w) r
theorem Want.int {i : Int} {Q : VK} (k : Want K H μ Ω (.int i) Q) (w : Wf K H μ Ω) : Q (.int i) H := k.now w (by simp only [Rep])
theorem Want.bl {b : Bool} {Q : VK} (k : Want K H μ Ω (.bl b) Q) (w : Wf K H μ Ω) : Q (.bl b) H := k.now w (by simp only [Rep])
theorem Want.str {s : Str} {Q : VK} (k : Want K H μ Ω (.str s) Q) (w : Wf K H μ Ω) : Q (.str s) H := k.now w (by simp only [Rep])
theorem Want.lst {xs : List D} {vs : List V} {Q : VK} (k : Want K H μ Ω (.lst xs) Q) (w : Wf K H μ Ω) (r : Reps K (Fz H μ Ω) μ Ω.length xs vs) (z : vs.length ≤ sizeLine) : ∀ p, H p = none → Q (.ref p) (upd H p (.lst vs)) := fun p hp =>
  let ⟨e, q⟩ := res_lst w r z hp
  k _ _ e q
theorem Want.tup {xs : List D} {vs : List V} {Q : VK} (k : Want K H μ Ω (.tup xs) Q) (w : Wf K H μ Ω) (r : Reps K (Fz H μ Ω) μ Ω.length xs vs) (z : vs.length ≤ sizeLine) : ∀ p, H p = none → Q (.ref p) (upd H p (.tup vs)) := fun p hp =>
  let ⟨e, q⟩ := res_tup w r z hp
  k _ _ e q
end
section
variable {X : Cx}
theorem opt_if {c : Prop} [Decidable c] {α : Type} {x y : α} (h : (if c then some x else none) = some y) : c ∧ x = y := by
  by_cases hc : c
  · rw [if_pos hc] at h
    exact ⟨hc, Option.some.inj h⟩
  · rw [if_neg hc] at h
    cases h
theorem add_ok : OpR X (binaryOp .Add) (r2 X.K (op2D .Add)) := by
  intro pins s σ H x y v u Q I rx ry h
  obtain ⟨μ, Ω, a, b, d, w, va, vb, e, k⟩ := h
  have e : opAdd a b = some d := e
  cases a with
  | int i =>
    cases b with
    | int j =>
      cases e
      simp only [View] at va vb
      exact op_add pins s σ H x y v u Q I rx ry ⟨i, j, va, vb, k.int w⟩
    | _ => cases e
  | str i =>
    cases b with
    | str j =>
      obtain ⟨hz, rfl⟩ := opt_if e
      simp only [View] at va vb
      exact op_add_str pins s σ H x y v u Q I rx ry ⟨i, j, va, vb, big_eq ▸ hz, k.str w⟩
    | _ => cases e
  | lst xs =>
    cases b with
    | lst ys =>
      obtain ⟨hz, rfl⟩ := opt_if e
      obtain ⟨p, vs, e1, r1, z1, c1⟩ := va
      obtain ⟨q, ws, e2, r2, z2, c2⟩ := vb
      have hl : vs.length + ws.length ≤ sizeLine := by rw [r1.length, r2.length, ← big_eq]; exact hz
      exact op_cat pins s σ H x y v u Q I rx ry ⟨p, q, vs, ws, e1, e2, c1, c2, hl, k.lst w (r1.append r2) (by rw [List.length_append]; exact hl)⟩
    | _ => cases e
  | tup xs =>
    cases b with
    | tup ys =>
      obtain ⟨hz, rfl⟩ := opt_if e
      obtain ⟨p, vs, e1, r1, z1, c1, _, rp1⟩ := va
      obtain ⟨q, ws, e2, r2, z2, c2, _, rp2⟩ := vb
      have hl : vs.length + ws.length ≤ sizeLine := by rw [r1.length, r2.length, ← big_eq]; exact hz
      refine op_catA pins s σ H x y v u Q I rx ry ⟨p, q, vs, ws, e1, e2, c1, c2, hl, fun h0 => ?_, fun h0 h1 => ?_, fun h0 h1 => k.tup w (r1.append r2) (by rw [List.length_append]; exact hl)⟩
      · have hx : xs = [] := by
          have := r1.length
          rw [h0] at this
          exact List.length_eq_zero_iff.mp this.symm
        subst hx
        rw [← e2]
        exact k.now w rp2
      · have hy : ys = [] := by
          have := r2.length
          rw [h1] at this
          exact List.length_eq_zero_iff.mp this.symm
        subst hy
        rw [List.append_nil] at k
        rw [← e1]
        exact k.now w rp1
    | _ => cases e
  | _ => cases b <;> cases e
theorem mul_ok : OpR X (binaryOp .Mult) (r2 X.K (op2D .Mult)) := by
  intro pins s σ H x y v u Q I rx ry h
  obtain ⟨μ, Ω, a, b, d, w, va, vb, e, k⟩ := h
  have e : opMul a b = some d := e
  cases a with
  | int i =>
    cases b with
    | int j =>
      obtain ⟨hz, rfl⟩ := opt_if e
      simp only [View] at va vb
      exact op_mulW pins s σ H x y v u Q I rx ry ⟨i, j, va, vb, hz, k.int w⟩
    | _ => cases e
  | lst xs =>
    cases b with
    | int j =>
      obtain ⟨⟨h1, h2, hz⟩, rfl⟩ := opt_if e
      simp only [View] at vb
      obtain ⟨p, vs, e1, r1, z1, c1⟩ := va
      have hl : vs.length * j.toNat ≤ sizeLine := by rw [r1.length, ← big_eq]; exact hz
      refine op_rep pins s σ H x y v u Q I rx ry ⟨p, j, vs, e1, vb, c1, h1, h2, hl, k.lst w (r1.rep _) ?_⟩
      rw [List.length_flatten, List.map_replicate, List.sum_replicate_nat, Nat.mul_comm]
      exact hl
    | _ => cases e
  | _ => cases b <;> cases e
theorem op2_ok (o : Operator) : OpR X (binaryOp o) (r2 X.K (op2D o)) := by
  cases o with
  | Add => exact add_ok
  | Mult => exact mul_ok
  | Sub =>
    intro pins s σ H x y v u Q I rx ry h
    obtain ⟨μ, Ω, a, b, d, w, va, vb, e, k⟩ := h
    cases a with
    | int i =>
      cases b with
      | int j =>
        cases e
        simp only [View] at va vb
        exact op_sub pins s σ H x y v u Q I rx ry ⟨i, j, va, vb, k.int w⟩
      | _ => cases e
    | _ => cases b <;> cases e
  | FloorDiv =>
    intro pins s σ H x y v u Q I rx ry h
    obtain ⟨μ, Ω, a, b, d, w, va, vb, e, k⟩ := h
    cases a with
    | int i =>
      cases b with
      | int j =>
        obtain ⟨hz, rfl⟩ := opt_if (show (if 0 < j ∧ j.natAbs.log2 < 9000 then some (D.int (i / j)) else none) = some d from e)
        simp only [View] at va vb
        exact op_fdivW pins s σ H x y v u Q I rx ry ⟨i, j, va, vb, hz, k.int w⟩
      | _ => cases e
    | _ => cases b <;> cases e
  | Mod =>
    intro pins s σ H x y v u Q I rx ry h
    obtain ⟨μ, Ω, a, b, d, w, va, vb, e, k⟩ := h
    cases a with
    | int i =>
      cases b with
      | int j =>
        obtain ⟨hz, rfl⟩ := opt_if (show (if 0 < j then some (D.int (i % j)) else none) = some d from e)
        simp only [View] at va vb
        exact op_mod pins s σ H x y v u Q I rx ry ⟨i, j, va, vb, hz, k.int w⟩
      | _ => cases e
    | _ => cases b <;> cases e
  | Pow =>
    intro pins s σ H x y v u Q I rx ry h
    obtain ⟨μ, Ω, a, b, d, w, va, vb, e, k⟩ := h
    cases a with
    | int i =>
      cases b with
      | int j =>
        obtain ⟨hz, rfl⟩ := opt_if (show (if 0 ≤ j ∧ j ≤ 1000000 ∧ i.natAbs < 2 ^ 64 then some (D.int (i ^ j.toNat)) else none) = some d from e)
        simp only [View] at va vb
        exact op_pow pins s σ H x y v u Q I rx ry ⟨i, j, va, vb, hz, k.int w⟩
      | _ => cases e
    | _ => cases b <;> cases e
  | _ =>
    intro pins s σ H x y v u Q I rx ry h
    obtain ⟨μ, Ω, a, b, d, w, va, vb, e, k⟩ := h
    cases e
end
end Rf
end
section
namespace Rf
open PySem L2
section
variable {K : Frg} {W : WX} {σ : St} {H H' G : Hp} {μ μ' : Mu} {Ω Ω' : Sto} {ρ : Env} {n : Nat}
theorem key_rep {d : D} {v : V} {k : Key} (h : Rep K G μ n d v) (e : keyD d = some k) : v = kV k := by
  cases d with
  | int i => cases e; simp only [Rep] at h; exact h
  | str i => cases e; simp only [Rep] at h; exact h
  | _ => cases e
theorem key_view {d : D} {v : V} {k : Key} (h : View K H μ Ω d v) (e : keyD d = some k) : v = kV k := by
  cases d with
  | int i => cases e; simp only [View] at h; exact h
  | str i => cases e; simp only [View] at h; exact h
  | _ => cases e
theorem keys_rep : ∀ {xs : List D} {vs : List V} {ks : List Key}, Reps K G μ n xs vs → keysD xs = some ks → vs = ks.map kV
  | [], vs, ks, h, e => by
    cases e
    simp only [Reps] at h
    rw [h]
    rfl
  | d :: ds, vs, ks, h, e => by
    simp only [Reps] at h
    obtain ⟨v, ws, rfl, r, rs⟩ := h
    unfold keysD at e
    cases e1 : keyD d with
    | none => rw [e1] at e; cases e
    | some k =>
      cases e2 : keysD ds with
      | none => rw [e1, e2] at e; cases e
      | some kr =>
        rw [e1, e2] at e
        cases e
        rw [key_rep r e1, keys_rep rs e2]
        rfl
theorem tkey_view {d : D} {v : V} {k : List Key} (h : View K H μ Ω d v) (e : tkeyD d = some k) : ∃ b, v = .ref b ∧ H b = some (.tup (k.map kV)) := by
  cases d with
  | tup xs =>
    have e : (if fracB xs = true then none else keysD xs) = some k := e
    cases hf : fracB xs with
    | true => rw [hf, if_pos rfl] at e; cases e
    | false =>
      rw [hf, if_neg Bool.false_ne_true] at e
      obtain ⟨p, vs, e1, r, z, _, c, _⟩ := h
      rw [keys_rep r e] at c
      exact ⟨p, e1, c hf⟩
  | _ => cases e
theorem getK_rep : ∀ {kvs : List (Key × D)} {ws : List (Key × V)} {k : Key}, RepK K G μ n kvs ws → (∀ d, getK kvs k = some d → ∃ v, valV ws k = some v ∧ Rep K G μ n d v) ∧ (getK kvs k = none → valV ws k = none)
  | [], ws, k, h => by
    simp only [RepK] at h
    subst h
    exact ⟨fun d e => (by cases e), fun _ => rfl⟩
  | (j, d) :: r, ws, k, h => by
    simp only [RepK] at h
    obtain ⟨v, w', rfl, rv, rr⟩ := h
    obtain ⟨i1, i2⟩ := getK_rep (k := k) rr
    unfold getK at i1 i2 ⊢
    by_cases e : j = k
    · subst e
      rw [valV_pos rfl]
      simp only [List.find?_cons, decide_true, Option.map_some]
      exact ⟨fun d' q => ⟨v, rfl, by cases q; exact rv⟩, fun q => (by cases q)⟩
    · rw [valV_neg (p := (j, v)) e]
      simp only [List.find?_cons, decide_eq_false e]
      exact ⟨i1, i2⟩
theorem getT_rep : ∀ {kvs : List (List Key × D)} {ws : List (List Key × V)} {k : List Key}, RepT K G μ n kvs ws → (∀ d, getK kvs k = some d → ∃ v, valV ws k = some v ∧ Rep K G μ n d v) ∧ (getK kvs k = none → valV ws k = none)
  | [], ws, k, h => by
    simp only [RepT] at h
    subst h
    exact ⟨fun d e => (by cases e), fun _ => rfl⟩
  | (j, d) :: r, ws, k, h => by
    simp only [RepT] at h
    obtain ⟨v, w', rfl, rv, rr⟩ := h
    obtain ⟨i1, i2⟩ := getT_rep (k := k) rr
    unfold getK at i1 i2 ⊢
    by_cases e : j = k
    · subst e
      rw [valV_pos rfl]
      simp only [List.find?_cons, decide_true, Option.map_some]
      exact ⟨fun d' q => ⟨v, rfl, by cases q; exact rv⟩, fun q => (by cases q)⟩
    · rw [valV_neg (p := (j, v)) e]
      simp only [List.find?_cons, decide_eq_false e]
      exact ⟨i1, i2⟩
theorem isSome_rep {kvs : List (Key × D)} {ws : List (Key × V)} {k : Key} (h : RepK K G μ n kvs ws) : (valV ws k).isSome = (getK kvs k).isSome := by
  obtain ⟨h1, h2⟩ := getK_rep (k := k) h
  cases e : getK kvs k with
  | none => rw [h2 e]; rfl
  | some d =>
    obtain ⟨v, e1, _⟩ := h1 d e
    rw [e1]
    rfl
theorem isSomeT_rep {kvs : List (List Key × D)} {ws : List (List Key × V)} {k : List Key} (h : RepT K G μ n kvs ws) : (valV ws k).isSome = (getK kvs k).isSome := by
  obtain ⟨h1, h2⟩ := getT_rep (k := k) h
  cases e : getK kvs k with
  | none => rw [h2 e]; rfl
  | some d =>
    obtain ⟨v, e1, _⟩ := h1 d e
    rw [e1]
    rfl
mutual
theorem dp_rep : ∀ (d : D) (v : V) (x : PyData), Rep K (Fz H μ Ω) μ n d v → toPy d = some x → Dp K H v x
  | .non, v, x, h, e => by simp only [Rep] at h; simp only [toPy] at e; cases e; subst h; exact .non
  | .bl b, v, x, h, e => by simp only [Rep] at h; simp only [toPy] at e; cases e; subst h; exact .bl b
  | .int i, v, x, h, e => by simp only [Rep] at h; simp only [toPy] at e; cases e; subst h; exact .int i
  | .str i, v, x, h, e => by simp only [Rep] at h; simp only [toPy] at e; cases e; subst h; exact .str i
  | .tup xs, v, x, h, e => by
    simp only [Rep] at h
    simp only [toPy] at e
    obtain ⟨p, vs, rfl, r, z, c⟩ := h
    obtain ⟨ds, e1, rfl⟩ := Option.map_eq_some_iff.mp e
    refine .tup ?_ (dps_rep xs vs ds r e1)
    rcases c with c | ⟨_, c⟩
    · exact .inl (.inl (Fz.le c))
    · exact Fz.sqt c
  | .e0, v, x, h, e => by
    simp only [Rep] at h
    simp only [toPy] at e
    cases e
    obtain ⟨p, rfl, c⟩ := h
    exact .tup (Fz.sqt c) .nil
  | .lst xs, v, x, h, e => by
    simp only [Rep] at h
    simp only [toPy] at e
    obtain ⟨p, vs, rfl, r, z, c⟩ := h
    obtain ⟨ds, e1, rfl⟩ := Option.map_eq_some_iff.mp e
    exact .lst (.inl (.inl (Fz.le c))) (dps_rep xs vs ds r e1)
  | .scr _, v, x, h, e => by simp only [toPy] at e; cases e
  | .dk _, v, x, h, e => by simp only [toPy] at e; cases e
  | .dt _, v, x, h, e => by simp only [toPy] at e; cases e
  | .ins _ _, v, x, h, e => by simp only [toPy] at e; cases e
  | .hd _, v, x, h, e => by simp only [toPy] at e; cases e
theorem dps_rep : ∀ (ds : List D) (vs : List V) (xs : List PyData), Reps K (Fz H μ Ω) μ n ds vs → toPys ds = some xs → DpAll K H vs xs
  | [], vs, xs, h, e => by simp only [Reps] at h; simp only [toPys] at e; cases e; subst h; exact .nil
  | d :: ds, vs, xs, h, e => by
    simp only [Reps] at h
    obtain ⟨v, ws, rfl, r, rs⟩ := h
    simp only [toPys] at e
    cases e1 : toPy d with
    | none => rw [e1] at e; cases e
    | some x =>
      cases e2 : toPys ds with
      | none => rw [e1, e2] at e; cases e
      | some ys =>
        rw [e1, e2] at e
        cases e
        exact .cons (dp_rep d v x r e1) (dps_rep ds ws ys rs e2)
end
theorem dp_view {d : D} {v : V} {x : PyData} (h : View K H μ Ω d v) (e : toPy d = some x) : Dp K H v x := by
  cases d with
  | lst xs =>
    simp only [toPy] at e
    obtain ⟨p, vs, rfl, r, z, c⟩ := h
    obtain ⟨ds, e1, rfl⟩ := Option.map_eq_some_iff.mp e
    exact .lst (.inl (.inl c)) (dps_rep xs vs ds r e1)
  | tup xs =>
    obtain ⟨p, vs, _, _, _, _, _, r⟩ := h
    exact dp_rep _ _ _ r e
  | e0 =>
    simp only [toPy] at e
    cases e
    obtain ⟨p, rfl, c⟩ := h
    exact .tup c .nil
  | non => simp only [View] at h; simp only [toPy] at e; cases e; subst h; exact .non
  | bl b => simp only [View] at h; simp only [toPy] at e; cases e; subst h; exact .bl b
  | int i => simp only [View] at h; simp only [toPy] at e; cases e; subst h; exact .int i
  | str i => simp only [View] at h; simp only [toPy] at e; cases e; subst h; exact .str i
  | _ => simp only [toPy] at e; cases e
theorem flat_view {x : D} {v : V} (h : View K H μ Ω x v) (f : flatD x = true) : v = toVf x := by
  cases x <;> first | (simp only [View] at h; exact h) | cases f
end
section
variable {X : Cx}
theorem eqS_some {a b : D} {t : Bool} (e : eqS a b = some t) : ∃ x y, toPy a = some x ∧ toPy b = some y ∧ SeqAt.shaped x = true ∧ SeqAt.shaped y = true ∧ x.depth ≤ 50 ∧ t = PyData.eqv x y := by
  unfold eqS at e
  cases e1 : toPy a with
  | none => rw [e1] at e; cases e
  | some x =>
    cases e2 : toPy b with
    | none => rw [e1, e2] at e; cases e
    | some y =>
      rw [e1, e2] at e
      obtain ⟨⟨⟨h1, h2⟩, h4⟩, h3⟩ := opt_if e
      exact ⟨x, y, rfl, rfl, h1, h2, h4, h3.symm⟩
theorem eqK_some {a b : D} {t : Bool} (e : eqK a b = some t) : ∃ xs ys, a = .dk xs ∧ b = .dk ys ∧ ((xs.length = ys.length ∧ eqKs ys xs = some t) ∨ (xs.length ≠ ys.length ∧ t = false)) := by
  cases a with
  | dk xs =>
    cases b with
    | dk ys =>
      have e : (if xs.length = ys.length then eqKs ys xs else some false) = some t := e
      by_cases h : xs.length = ys.length
      · rw [if_pos h] at e
        exact ⟨xs, ys, rfl, rfl, .inl ⟨h, e⟩⟩
      · rw [if_neg h] at e
        exact ⟨xs, ys, rfl, rfl, .inr ⟨h, (Option.some.inj e).symm⟩⟩
    | _ => cases e
  | _ => cases e
theorem eqD_cases {a b : D} {t : Bool} (e : eqD a b = some t) : (∃ x y, toPy a = some x ∧ toPy b = some y ∧ SeqAt.shaped x = true ∧ SeqAt.shaped y = true ∧ t = PyData.eqv x y) ∨ ∃ xs ys, a = .dk xs ∧ b = .dk ys ∧ ((xs.length = ys.length ∧ eqKs ys xs = some t) ∨ (xs.length ≠ ys.length ∧ t = false)) := by
  unfold eqD at e
  cases e1 : toPy a with
  | none =>
    rw [e1] at e
    exact .inr (eqK_some e)
  | some x =>
    cases e2 : toPy b with
    | none =>
      rw [e1, e2] at e
      exact .inr (eqK_some e)
    | some y =>
      rw [e1, e2] at e
      obtain ⟨⟨h1, h2⟩, h3⟩ := opt_if e
      exact .inl ⟨x, y, rfl, rfl, h1, h2, h3.symm⟩
theorem key_hits {pins : List (Addr × Obj)} {σ : St} {H : Hp} {s : Shared} {μ : Mu} {n : Nat} {Ω : Sto} {ys : List (Key × D)} {wy : List (Key × V)} {vy : List (Key × Value)} (I : Inv X pins σ H s) (hu : X.A.units + 64 < cLine) (ry : RepK X.K (Fz H μ Ω) μ n ys wy) (ky : KV wy vy) : ∀ {xs : List (Key × D)} {wx : List (Key × V)} {vx : List (Key × Value)} {t : Bool}, RepK X.K (Fz H μ Ω) μ n xs wx → KV wx vx → eqKs ys xs = some t → PySem.W.KeqHits X.A.in1 s vy vx t
  | [], wx, vx, t, rx, kx, e => by
    simp only [RepK] at rx
    subst rx
    cases kx
    cases e
    exact .nil
  | (k, d) :: r, wx, vx, t, rx, kx, e => by
    simp only [RepK] at rx
    obtain ⟨v, w', rfl, rv, rr⟩ := rx
    cases kx with
    | @cons _ q _ vr h kr =>
      obtain ⟨k', u⟩ := q
      obtain ⟨e1, e2⟩ := h
      have e1 : k = k' := e1
      subst e1
      obtain ⟨g1, g2⟩ := getK_rep (k := k) ry
      have rk := KV.val ky k
      have e : (match getK ys k with
        | none => some false
        | some w => match eqS d w, eqKs ys r with
          | some a, some b => some (a && b)
          | _, _ => none) = some t := e
      cases eg : getK ys k with
      | none =>
        rw [eg] at e
        cases e
        rw [g2 eg] at rk
        refine .miss ?_
        cases ev : valueAt vy k with
        | none => rfl
        | some z => rw [ev] at rk; exact False.elim rk
      | some w =>
        rw [eg] at e
        dsimp only at e
        obtain ⟨v', ev', rw'⟩ := g1 w eg
        rw [ev'] at rk
        cases es : eqS d w with
        | none => rw [es] at e; cases e
        | some a =>
          cases er : eqKs ys r with
          | none => rw [es, er] at e; cases e
          | some b =>
            rw [es, er] at e
            cases e
            obtain ⟨x, y, p1, p2, s1, s2, dp, rfl⟩ := eqS_some es
            cases ev : valueAt vy k with
            | none => rw [ev] at rk; exact False.elim rk
            | some z =>
              rw [ev] at rk
              obtain ⟨as, q1⟩ := Dp.reads I x v u (dp_rep d v x rv p1) e2
              obtain ⟨bs, q2⟩ := Dp.reads I y v' z (dp_rep w v' y rw' p2) rk
              exact .hit ev (SeqAt.eqAt_reads x y X.A.in1 s u z as bs q1 q2 (SeqAt.canLay_of_shaped s1) (SeqAt.canLay_of_shaped s2) (by
                have := Nat.min_le_left x.depth y.depth
                show X.A.units + 1 + min x.depth y.depth < cLine
                omega)) (key_hits I hu ry ky rr kr er)
theorem repK_len {G : Hp} : ∀ {kvs : List (Key × D)} {ws : List (Key × V)}, RepK K G μ n kvs ws → ws.length = kvs.length
  | [], ws, h => by simp only [RepK] at h; rw [h]; rfl
  | (k, d) :: r, ws, h => by
    simp only [RepK] at h
    obtain ⟨v, w', rfl, _, rr⟩ := h
    rw [List.length_cons, List.length_cons, repK_len rr]
theorem eq_dicts {pins : List (Addr × Obj)} {σ : St} {H : Hp} {s : Shared} {μ : Mu} {Ω : Sto} {xs ys : List (Key × D)} {x y : V} {v u : Value} {t : Bool} (I : Inv X pins σ H s) (hu : X.A.units + 64 < cLine) (va : View X.K H μ Ω (.dk xs) x) (vb : View X.K H μ Ω (.dk ys) y) (rx : RelV x v) (ry : RelV y u)
    (e : (xs.length = ys.length ∧ eqKs ys xs = some t) ∨ (xs.length ≠ ys.length ∧ t = false)) : ∃ p q ka kb r, v = .ref p ∧ u = .ref q ∧ (p == sysModules) = false ∧ (q == sysModules) = false ∧ s.heap.DictOf (mixKind X.prog X.w) p ka ∧ s.heap.DictOf (mixKind X.prog X.w) q kb ∧ (ka.length = kb.length → PySem.W.KeqHits X.A.in1 s kb ka r) ∧ (ka.length == kb.length && r) = t := by
  obtain ⟨p, wx, rfl, r1, c1⟩ := va
  obtain ⟨q, wy, rfl, r2, c2⟩ := vb
  cases rx
  cases ry
  obtain ⟨_, m1, ka, k1, d1⟩ := dk_rd I.hok c1
  obtain ⟨_, m2, kb, k2, d2⟩ := dk_rd I.hok c2
  have l1 : ka.length = xs.length := by rw [← k1.length, repK_len r1]
  have l2 : kb.length = ys.length := by rw [← k2.length, repK_len r2]
  rcases e with ⟨e1, e2⟩ | ⟨e1, rfl⟩
  · refine ⟨p, q, ka, kb, t, rfl, rfl, m1, m2, d1, d2, fun _ => key_hits I hu r2 k2 r1 k1 e2, ?_⟩
    have : (ka.length == kb.length) = true := by rw [l1, l2]; exact beq_iff_eq.mpr e1
    rw [this, Bool.true_and]
  · refine ⟨p, q, ka, kb, true, rfl, rfl, m1, m2, d1, d2, fun z => absurd (by rw [← l1, ← l2]; exact z) e1, ?_⟩
    have : (ka.length == kb.length) = false := by rw [l1, l2]; exact beq_eq_false_iff_ne.mpr e1
    rw [this, Bool.false_and]
theorem eq_ok (hu : X.A.units + 64 < cLine) : OpR X (compareOp .Eq) (rc X.K eqD) := by
  intro pins s σ H x y v u Q I rx ry h
  obtain ⟨μ, Ω, a, b, t, w, va, vb, e, q⟩ := h
  rcases eqD_cases e with ⟨x', y', e1, e2, h1, h2, rfl⟩ | ⟨xs, ys, rfl, rfl, e9⟩
  · exact op_eqD hu pins s σ H x y v u Q I rx ry ⟨x', y', dp_view va e1, dp_view vb e2, h1, h2, q⟩
  · obtain ⟨p, q', ka, kb, r, rfl, rfl, m1, m2, d1, d2, hh, rfl⟩ := eq_dicts I hu va vb rx ry e9
    exact PySem.W.keq_eq m1 m2 d1 d2 (by omega) hh ⟨.bl _, H, I, rfl, q⟩
theorem ne_ok (hu : X.A.units + 64 < cLine) : OpR X (compareOp .NotEq) (rc X.K fun a b => (eqD a b).map (!·)) := by
  intro pins s σ H x y v u Q I rx ry h
  obtain ⟨μ, Ω, a, b, t, w, va, vb, e, q⟩ := h
  obtain ⟨t', e0, rfl⟩ := Option.map_eq_some_iff.mp e
  rcases eqD_cases e0 with ⟨x', y', e1, e2, h1, h2, rfl⟩ | ⟨xs, ys, rfl, rfl, e9⟩
  · exact op_neD hu pins s σ H x y v u Q I rx ry ⟨x', y', dp_view va e1, dp_view vb e2, h1, h2, q⟩
  · obtain ⟨p, q', ka, kb, r, rfl, rfl, m1, m2, d1, d2, hh, rfl⟩ := eq_dicts I hu va vb rx ry e9
    exact PySem.W.keq_ne m1 m2 d1 d2 (by omega) hh ⟨.bl _, H, I, rfl, q⟩
theorem in_seqD {K : Frg} {H : Hp} {μ : Mu} {Ω : Sto} {a b : D} {x y : V} {xs : List D} {neg : Bool} {Q : VK} (va : View K H μ Ω a x) (vb : View K H μ Ω b y) (es : seqD b = some xs) (hf : (flatD a && xs.all flatD) = true)
    (q : Q (.bl (if neg then !(xs.any fun y => eqFlat y a) else xs.any fun y => eqFlat y a)) H) : rIn K neg x y H Q := by
  rw [Bool.and_eq_true] at hf
  obtain ⟨p, vs, e1, r, z, c⟩ := view_seq vb es
  have ex := flat_view va hf.1
  have ev := r.toVf hf.2
  subst ex ev
  exact ⟨p, _, e1, c, toVf_flat hf.1, flat_all hf.2, by rw [inV_toVf hf.1 hf.2]; exact q⟩
theorem inD_cases {a b : D} {t : Bool} (e : inD a b = some t) :
    (∃ s z, a = .str s ∧ b = .str z ∧ t = !(Builtin.Str.occurrences z s 0 z.length 1).isEmpty) ∨ (∃ kvs k, b = .dk kvs ∧ keyD a = some k ∧ t = (getK kvs k).isSome) ∨ (∃ kvs k, b = .dt kvs ∧ tkeyD a = some k ∧ t = (getK kvs k).isSome) ∨
    (∃ xs, seqD b = some xs ∧ (flatD a && xs.all flatD) = true ∧ t = xs.any fun y => eqFlat y a) ∨ inDD a b = some t := by
  unfold inD at e
  cases b with
  | str z =>
    cases a with
    | str s => exact .inl ⟨s, z, rfl, rfl, (Option.some.inj e).symm⟩
    | _ => cases e
  | dk kvs =>
    cases e1 : keyD a with
    | none => simp only [e1] at e; cases e
    | some k => simp only [e1] at e; exact .inr (.inl ⟨kvs, k, rfl, rfl, (Option.some.inj e).symm⟩)
  | dt kvs =>
    cases e1 : tkeyD a with
    | none => simp only [e1] at e; cases e
    | some k => simp only [e1] at e; exact .inr (.inr (.inl ⟨kvs, k, rfl, rfl, (Option.some.inj e).symm⟩))
  | lst xs =>
    have e : (if (flatD a && xs.all flatD) = true then some (xs.any fun y => eqFlat y a) else inDD a (.lst xs)) = some t := e
    by_cases q : (flatD a && xs.all flatD) = true
    · rw [if_pos q] at e
      exact .inr (.inr (.inr (.inl ⟨xs, rfl, q, (Option.some.inj e).symm⟩)))
    · rw [if_neg q] at e
      exact .inr (.inr (.inr (.inr e)))
  | tup xs =>
    have e : (if (flatD a && xs.all flatD) = true then some (xs.any fun y => eqFlat y a) else inDD a (.tup xs)) = some t := e
    by_cases q : (flatD a && xs.all flatD) = true
    · rw [if_pos q] at e
      exact .inr (.inr (.inr (.inl ⟨xs, rfl, q, (Option.some.inj e).symm⟩)))
    · rw [if_neg q] at e
      exact .inr (.inr (.inr (.inr e)))
  | e0 =>
    have e : (if (flatD a && ([] : List D).all flatD) = true then some (([] : List D).any fun y => eqFlat y a) else inDD a (.e0)) = some t := e
    by_cases q : (flatD a && ([] : List D).all flatD) = true
    · rw [if_pos q] at e
      exact .inr (.inr (.inr (.inl ⟨[], rfl, q, (Option.some.inj e).symm⟩)))
    · rw [if_neg q] at e
      exact .inr (.inr (.inr (.inr e)))
  | scr ns =>
    have e : (if (flatD a && (ns.map D.int).all flatD) = true then some ((ns.map D.int).any fun y => eqFlat y a) else inDD a (.scr ns)) = some t := e
    by_cases q : (flatD a && (ns.map D.int).all flatD) = true
    · rw [if_pos q] at e
      exact .inr (.inr (.inr (.inl ⟨_, rfl, q, (Option.some.inj e).symm⟩)))
    · rw [if_neg q] at e
      exact .inr (.inr (.inr (.inr e)))
  | _ => cases e
theorem inDD_some {a b : D} {t : Bool} (e : inDD a b = some t) : ∃ d ds, toPy a = some d ∧ (toPy b = some (.list ds) ∨ toPy b = some (.tuple ds)) ∧ d.canLay0 = true ∧ PyData.canLayAll0 ds = true ∧ d.depth ≤ 50 ∧ t = ds.any fun z => PyData.eqv z d := by
  unfold inDD at e
  split at e
  · rename_i d ds e1 e2
    obtain ⟨⟨h1, h2, h3⟩, h4⟩ := opt_if e
    exact ⟨d, ds, e1, .inl e2, h1, h2, h3, h4.symm⟩
  · rename_i d ds e1 e2
    obtain ⟨⟨h1, h2, h3⟩, h4⟩ := opt_if e
    exact ⟨d, ds, e1, .inr e2, h1, h2, h3, h4.symm⟩
  · cases e
theorem dget_k {K : Frg} {H : Hp} {μ : Mu} {Ω : Sto} {a : D} {x y : V} {kvs : List (Key × D)} {k : Key} (va : View K H μ Ω a x) (vb : View K H μ Ω (.dk kvs) y) (ek : keyD a = some k) :
    ∃ p ws, y = .ref p ∧ RepK K (Fz H μ Ω) μ Ω.length kvs ws ∧ DGet H p x (valV ws k) := by
  obtain ⟨p, ws, e1, r, c⟩ := vb
  exact ⟨p, ws, e1, r, .inl ⟨ws, k, c, key_view va ek, rfl⟩⟩
theorem dget_t {K : Frg} {H : Hp} {μ : Mu} {Ω : Sto} {a : D} {x y : V} {kvs : List (List Key × D)} {k : List Key} (va : View K H μ Ω a x) (vb : View K H μ Ω (.dt kvs) y) (ek : tkeyD a = some k) :
    ∃ p ws, y = .ref p ∧ RepT K (Fz H μ Ω) μ Ω.length kvs ws ∧ DGet H p x (valV ws k) := by
  obtain ⟨p, ws, e1, r, c⟩ := vb
  obtain ⟨b, e2, hb⟩ := tkey_view va ek
  exact ⟨p, ws, e1, r, .inr ⟨ws, k, b, c, e2, hb, rfl⟩⟩
theorem in_ok (hu : X.A.units + 64 < cLine) : OpR X (compareOp .In) (rc X.K inD) := by
  intro pins s σ H x y v u Q I rx ry h
  obtain ⟨μ, Ω, a, b, t, w, va, vb, e, q⟩ := h
  rcases inD_cases e with ⟨s', z, rfl, rfl, rfl⟩ | ⟨kvs, k, rfl, ek, rfl⟩ | ⟨kvs, k, rfl, ek, rfl⟩ | ⟨xs, es, hf, rfl⟩ | e9
  · simp only [View] at va vb
    exact op_in_str pins s σ H x y v u Q I rx ry ⟨s', z, va, vb, q⟩
  · obtain ⟨p, ws, rfl, r, g⟩ := dget_k va vb ek
    cases ry
    exact d_in (by omega) I g rx fun s' I' => ⟨.bl _, H, I', rfl, by rw [isSome_rep r]; exact q⟩
  · obtain ⟨p, ws, rfl, r, g⟩ := dget_t va vb ek
    cases ry
    exact d_in (by omega) I g rx fun s' I' => ⟨.bl _, H, I', rfl, by rw [isSomeT_rep r]; exact q⟩
  · exact op_in_seq pins s σ H x y v u Q I rx ry (in_seqD va vb es hf (neg := false) q)
  · obtain ⟨d, ds, p1, p2, h1, h2, h3, rfl⟩ := inDD_some e9
    obtain ⟨as, r1⟩ := Dp.reads I d x v (dp_view va p1) rx
    have hroom : X.A.units + 1 + min (PyData.depthAll ds) d.depth < cLine := by have := Nat.min_le_right (PyData.depthAll ds) d.depth; omega
    rcases p2 with p2 | p2
    · obtain ⟨bs, r2⟩ := Dp.reads I (.list ds) y u (dp_view vb p2) ry
      exact SeqAt.in_list_reads r2 r1 h2 h1 hroom ⟨.bl _, H, I, rfl, q⟩
    · obtain ⟨bs, r2⟩ := Dp.reads I (.tuple ds) y u (dp_view vb p2) ry
      exact SeqAt.in_tuple_reads r2 r1 h2 h1 hroom ⟨.bl _, H, I, rfl, q⟩
theorem notin_ok (hu : X.A.units + 64 < cLine) : OpR X (compareOp .NotIn) (rc X.K fun a b => (inD a b).map (!·)) := by
  intro pins s σ H x y v u Q I rx ry h
  obtain ⟨μ, Ω, a, b, t, w, va, vb, e0, q⟩ := h
  obtain ⟨t', e, rfl⟩ := Option.map_eq_some_iff.mp e0
  rcases inD_cases e with ⟨s', z, rfl, rfl, rfl⟩ | ⟨kvs, k, rfl, ek, rfl⟩ | ⟨kvs, k, rfl, ek, rfl⟩ | ⟨xs, es, hf, rfl⟩ | e9
  · simp only [View] at va vb
    exact op_notin_str pins s σ H x y v u Q I rx ry ⟨s', z, va, vb, q⟩
  · obtain ⟨p, ws, rfl, r, g⟩ := dget_k va vb ek
    cases ry
    exact d_notIn (by omega) I g rx fun s' I' => ⟨.bl _, H, I', rfl, by rw [isSome_rep r]; exact q⟩
  · obtain ⟨p, ws, rfl, r, g⟩ := dget_t va vb ek
    cases ry
    exact d_notIn (by omega) I g rx fun s' I' => ⟨.bl _, H, I', rfl, by rw [isSomeT_rep r]; exact q⟩
  · exact op_notIn_seq pins s σ H x y v u Q I rx ry (in_seqD va vb es hf (neg := true) q)
  · obtain ⟨d, ds, p1, p2, h1, h2, h3, rfl⟩ := inDD_some e9
    obtain ⟨as, r1⟩ := Dp.reads I d x v (dp_view va p1) rx
    have hroom : X.A.units + 1 + min (PyData.depthAll ds) d.depth < cLine := by have := Nat.min_le_right (PyData.depthAll ds) d.depth; omega
    rcases p2 with p2 | p2
    · obtain ⟨bs, r2⟩ := Dp.reads I (.list ds) y u (dp_view vb p2) ry
      exact SeqAt.notIn_list_reads r2 r1 h2 h1 hroom ⟨.bl _, H, I, rfl, q⟩
    · obtain ⟨bs, r2⟩ := Dp.reads I (.tuple ds) y u (dp_view vb p2) ry
      exact SeqAt.notIn_tuple_reads r2 r1 h2 h1 hroom ⟨.bl _, H, I, rfl, q⟩
theorem cmp_ok (hu : X.A.units + 64 < cLine) (o : CmpOp) : OpR X (compareOp o) (rc X.K (cmpD o)) := by
  cases o with
  | Eq => exact eq_ok hu
  | NotEq => exact ne_ok hu
  | In => exact in_ok hu
  | NotIn => exact notin_ok hu
  | Lt =>
    intro pins s σ H x y v u Q I rx ry h
    obtain ⟨μ, Ω, a, b, t, w, va, vb, e, q⟩ := h
    cases a with
    | int i =>
      cases b with
      | int j => cases e; simp only [View] at va vb; exact op_lt pins s σ H x y v u Q I rx ry ⟨i, j, va, vb, q⟩
      | _ => cases e
    | str i =>
      cases b with
      | str j => cases e; simp only [View] at va vb; exact op_lt_str pins s σ H x y v u Q I rx ry ⟨i, j, va, vb, q⟩
      | _ => cases e
    | _ => cases b <;> cases e
  | LtE =>
    intro pins s σ H x y v u Q I rx ry h
    obtain ⟨μ, Ω, a, b, t, w, va, vb, e, q⟩ := h
    cases a with
    | int i =>
      cases b with
      | int j => cases e; simp only [View] at va vb; exact op_le pins s σ H x y v u Q I rx ry ⟨i, j, va, vb, q⟩
      | _ => cases e
    | _ => cases b <;> cases e
  | Gt =>
    intro pins s σ H x y v u Q I rx ry h
    obtain ⟨μ, Ω, a, b, t, w, va, vb, e, q⟩ := h
    cases a with
    | int i =>
      cases b with
      | int j => cases e; simp only [View] at va vb; exact op_gt pins s σ H x y v u Q I rx ry ⟨i, j, va, vb, q⟩
      | _ => cases e
    | _ => cases b <;> cases e
  | GtE =>
    intro pins s σ H x y v u Q I rx ry h
    obtain ⟨μ, Ω, a, b, t, w, va, vb, e, q⟩ := h
    cases a with
    | int i =>
      cases b with
      | int j => cases e; simp only [View] at va vb; exact op_ge pins s σ H x y v u Q I rx ry ⟨i, j, va, vb, q⟩
      | _ => cases e
    | _ => cases b <;> cases e
  | _ =>
    intro pins s σ H x y v u Q I rx ry h
    obtain ⟨μ, Ω, a, b, t, w, va, vb, e, q⟩ := h
    cases a <;> cases b <;> cases e
end
end Rf
end
section
namespace Rf
open PySem PySem.Spec PyProof.Rows L2
theorem mergeT_len : ∀ (more kvs : List (List Key × V)), (mergeT kvs more).length ≤ kvs.length + more.length
  | [], kvs => Nat.le_refl _
  | kv :: more, kvs => by
    have h1 := mergeT_len more (putK kvs kv.1 kv.2)
    have h2 := length_putK kvs kv.1 kv.2
    show (mergeT (putK kvs kv.1 kv.2) more).length ≤ _
    rw [List.length_cons]
    omega
theorem mergeT_kt {H : Hp} : ∀ {more : List (List Key × V)} {ms : List (List Key × Addr × Value)} {kvs : List (List Key × V)} {xs : List (List Key × Addr × Value)}, KT H more ms → KT H kvs xs → KT H (mergeT kvs more) (storedAllH xs ms)
  | _, _, kvs, xs, .nil, r => r
  | _, _, kvs, xs, .cons (a := p) (b := q) h t, r => by
    have e := h.1
    refine mergeT_kt (kvs := putK kvs p.1 p.2) (xs := storedH xs q.1 q.2.1 q.2.2) t ?_
    rw [← e]
    exact r.put p.1 h.2.1 h.2.2
section
variable {X : Cx} {pins : List (Addr × Obj)} {σ : L2.St} {H : Hp} {s : Shared}
theorem pairs_atT (I : L2.Inv X pins σ H s) : ∀ {ps : List Addr} {kvs : List (List Key × V)}, Paired (fun p kv => ∃ b : Addr, SqT X.K H p [.ref b, kv.2] ∧ H b = some (.tup (kv.1.map kV))) ps kvs →
    ∃ prs : List (List Key × Addr × Value), KT H kvs prs ∧ prs.length = ps.length ∧ ∀ (j : Nat) (q : List Key × Addr × Value), prs[j]? = some q → ∃ p : Addr, ps[j]? = some p ∧ IsTup s.heap p #[.ref q.2.1, q.2.2]
  | _, _, .nil => ⟨[], .nil, rfl, fun j q e => by simp at e⟩
  | _, _, .cons (a := p) (b := kv) h t => by
    obtain ⟨b, h1, h2⟩ := h
    obtain ⟨prs, r, hl, hp⟩ := pairs_atT I t
    obtain ⟨its, rv, ht, _⟩ := I.tuple h1
    obtain ⟨u, y, ei, ru, ry⟩ := vals2 rv
    subst ei
    cases ru
    refine ⟨(kv.1, b, y) :: prs, .cons ⟨rfl, h2, ry⟩ r, by rw [List.length_cons, List.length_cons, hl], fun j q e => ?_⟩
    cases j with
    | zero =>
      have e' : (kv.1, b, y) = q := Option.some.inj e
      subst e'
      exact ⟨p, rfl, ht⟩
    | succ j => exact hp j q (by simpa using e)
theorem kt_key {P : Program} {w : World} {h : Heap} (ok : HOk P w H h) : ∀ {kvs : List (List Key × V)} {xs : List (List Key × Addr × Value)}, KT H kvs xs → ∀ x ∈ xs, (tupleKind (mixKind P w)).is h x.1 x.2.1 := by
  intro kvs xs q
  induction q with
  | nil => intro x hx; exact nomatch hx
  | @cons a b as bs hq t ih =>
    intro x hx
    rcases List.mem_cons.mp hx with e | hx
    · subst e
      exact key_of ok (by rw [← hq.1]; exact hq.2.1)
    · exact ih x hx
theorem call_dictPT (hc : X.calm = true) (hu : X.A.units + 64 < cLine) : CallR X (.type "dict") (fun xs H Q => ∃ (a : Addr) (ps : List Addr) (kvs : List (List Key × V)), xs = [.ref a] ∧ SqL X.K H a (ps.map V.ref) ∧ Paired (fun p kv => ∃ b : Addr, SqT X.K H p [.ref b, kv.2] ∧ H b = some (.tup (kv.1.map kV))) ps kvs ∧
    ∀ p, H p = none → Q (.ref p) (upd H p (.dT (mergeT [] kvs)))) := by
  intro pins s σ H xs us Q I r q
  obtain ⟨a, ps, kvs, ex, hq, hp, q⟩ := q
  subst ex
  obtain ⟨u, eu, rx⟩ := vals1 r
  subst eu
  cases rx
  obtain ⟨its, rv, pl, hz⟩ := I.list hq
  have ei := refs_at rv
  subst ei
  rw [List.length_map] at hz
  obtain ⟨prs, rel, hl, hpr⟩ := pairs_atT (s := s) I hp
  obtain ⟨o, n, ho, hcl, hd, hdat⟩ := pl
  have hkl : kvs.length = prs.length := Paired.length rel
  have items : PairItems s.heap (ps.map Value.ref).toArray (fun j => ps.getD j 0) (prs.map fun q => (Value.ref q.2.1, q.2.2)) := by
    refine ⟨by simp [hl], fun j k v e => ?_⟩
    rw [List.getElem?_map] at e
    cases e1 : prs[j]? with
    | none => rw [e1] at e; cases e
    | some q =>
      rw [e1] at e
      obtain ⟨p, e2, e3⟩ := hpr j q e1
      have e : (Value.ref q.2.1, q.2.2) = (k, v) := Option.some.inj e
      cases e
      refine ⟨by simp [e2, List.getD_eq_getElem?_getD], .inl ?_⟩
      show s.heap.IsTuple (ps.getD j 0) _
      rw [List.getD_eq_getElem?_getD, e2]
      exact e3
  have PA := PairArg.list (prog := X.prog) (w := X.w) a (ps.map Value.ref).toArray (fun j => ps.getD j 0) (prs.map fun q => (Value.ref q.2.1, q.2.2))
  have hav : PairsHaveH (tupleKind (mixKind X.prog X.w)) (prs.map fun q => (Value.ref q.2.1, q.2.2)).length (PairRel (prs.map fun q => (Value.ref q.2.1, q.2.2))) prs := by
    refine ⟨by rw [List.length_map], fun i key v e => ?_⟩
    have e : (prs.map fun q => (Value.ref q.2.1, q.2.2))[i]? = some (key, v) := e
    rw [List.getElem?_map] at e
    cases e1 : prs[i]? with
    | none => rw [e1] at e; cases e
    | some q =>
      rw [e1] at e
      have e : (Value.ref q.2.1, q.2.2) = (key, v) := Option.some.inj e
      cases e
      exact ⟨q.1, q.2.1, rfl, rfl⟩
  refine call_dict_pairsH (knd := tupleKind (mixKind X.prog X.w)) (ps := prs) PA (I.ok.hd hc) (tupleKind_room_in1 (A := X.A.in1) (by show X.A.units + 1 + 1 < cLine; omega)) ⟨⟨o, n, ho, hcl, hd, hdat⟩, items⟩ hav (fun h' hk x hx => ?_) (by rw [List.length_map, hl]; exact hz) fun h' tk dd k => ?_
  · have q1 : (tupleKind (mixKind X.prog X.w)).is s.heap x.1 x.2.1 := kt_key I.hok rel x hx
    obtain ⟨o, its, n, g1, g2, g3, g4⟩ := q1
    exact ⟨o, its, n, hk _ _ (Nat.ne_of_lt (Heap.lt_size g1)) (by simp) g1, g2, g3, g4⟩
  · have hm : (s.heap.objs.size == sysModules) = false := beq_eq_false_iff_ne.mpr (Nat.ne_of_gt I.big)
    have hlen : (mergeT [] kvs).length ≤ sizeLine := by
      refine Nat.le_trans (mergeT_len kvs []) ?_
      rw [List.length_nil, Nat.zero_add, hkl, hl]
      exact hz
    have hn : H s.heap.objs.size = none := I.hok.fresh (Nat.le_refl _)
    have kt : KT H (mergeT [] kvs) (storedAllH [] prs) := mergeT_kt rel .nil
    obtain ⟨q0, es, ep, hq0, h2, h3, h4, _, h5⟩ := dd
    refine ⟨.ref s.heap.objs.size, upd H s.heap.objs.size (.dT (mergeT [] kvs)), I.laid (t' := tk) (fun b o e => k b o (by simp) e) (Nat.le_refl _) ?_, rfl, q _ hn⟩
    show ObjOk X.prog X.w _ _ _ (.dT (mergeT [] kvs))
    refine ⟨hlen, hm, _, kt.keeps fun c ys ec => ?_, q0, es, ep, hq0, h2, h3, h4, h5⟩
    rw [upd_ne (ne_of_none ec hn)]
    exact ec
end
end Rf
end
section
namespace Rf
open PySem L2
section
variable {X : Cx}
theorem _root_.L2.CallR.lock {f : Value} {r : List V → Hp → VK → Prop} (h : CallR X f r) : CallR X f (fun xs H Q => r xs H fun v H1 => ∃ p u, v = .ref p ∧ H1 p = some u ∧ Mut (some u) ∧ ∀ od, Q v (upd H1 p (.frz od u))) := by
  intro pins s σ H xs us Q I rv q
  refine thn (h pins s σ H xs us _ I rv q) fun v s1 ⟨x, H1, I1, r1, p, u, e1, e2, m, k⟩ => ?_
  obtain ⟨od, I2⟩ := I1.lock e2 m
  exact ⟨x, _, I2, r1, k od⟩
theorem paired1 {α β : Type} {F : α → β → Prop} {x : α} {ys : List β} (h : Paired F [x] ys) : ∃ y, ys = [y] ∧ F x y := by
  cases h with
  | cons r t =>
    cases t
    exact ⟨_, rfl, r⟩
theorem len_seq {d : D} {xs : List D} {K : Frg} {H : Hp} {μ : Mu} {Ω : Sto} {v : V} (w : View K H μ Ω d v) (e : seqD d = some xs) : LenV K v H xs.length := by
  obtain ⟨p, vs, rfl, r, z, c⟩ := view_seq w e
  rcases c with c | c
  · exact .inl ⟨vs, c, r.length.symm⟩
  · exact .inr ⟨vs, c, r.length.symm⟩
theorem bools_rep {K : Frg} {G : Hp} {μ : Mu} {n : Nat} : ∀ {xs : List D} {vs : List V} {bs : List Bool}, Reps K G μ n xs vs → boolsD xs = some bs → vs = bs.map V.bl
  | [], vs, bs, h, e => by simp only [Reps] at h; cases e; rw [h]; rfl
  | d :: ds, vs, bs, h, e => by
    simp only [Reps] at h
    obtain ⟨v, ws, rfl, r, rs⟩ := h
    cases d with
    | bl b =>
      obtain ⟨bs', e1, rfl⟩ := Option.map_eq_some_iff.mp (show (boolsD ds).map (b :: ·) = some bs from e)
      simp only [Rep] at r
      rw [r, bools_rep rs e1]
      rfl
    | _ => cases e
theorem strs_rep {K : Frg} {G : Hp} {μ : Mu} {n : Nat} : ∀ {xs : List D} {vs : List V} {bs : List Str}, Reps K G μ n xs vs → strsD xs = some bs → vs = bs.map V.str
  | [], vs, bs, h, e => by simp only [Reps] at h; cases e; rw [h]; rfl
  | d :: ds, vs, bs, h, e => by
    simp only [Reps] at h
    obtain ⟨v, ws, rfl, r, rs⟩ := h
    cases d with
    | str b =>
      obtain ⟨bs', e1, rfl⟩ := Option.map_eq_some_iff.mp (show (strsD ds).map (b :: ·) = some bs from e)
      simp only [Rep] at r
      rw [r, strs_rep rs e1]
      rfl
    | _ => cases e
theorem ints_rep {K : Frg} {G : Hp} {μ : Mu} {n : Nat} : ∀ {xs : List D} {vs : List V} {bs : List Int}, Reps K G μ n xs vs → intsD xs = some bs → vs = bs.map V.int
  | [], vs, bs, h, e => by simp only [Reps] at h; cases e; rw [h]; rfl
  | d :: ds, vs, bs, h, e => by
    simp only [Reps] at h
    obtain ⟨v, ws, rfl, r, rs⟩ := h
    cases d with
    | int b =>
      obtain ⟨bs', e1, rfl⟩ := Option.map_eq_some_iff.mp (show (intsD ds).map (b :: ·) = some bs from e)
      simp only [Rep] at r
      rw [r, ints_rep rs e1]
      rfl
    | _ => cases e
theorem strs_back {K : Frg} {G : Hp} {μ : Mu} {n : Nat} : ∀ (ss : List Str), Reps K G μ n (ss.map .str) (ss.map V.str)
  | [] => Reps.nil
  | s :: r => Reps.cons (by simp only [Rep]) (strs_back r)
theorem ints_back {K : Frg} {G : Hp} {μ : Mu} {n : Nat} : ∀ (ss : List Int), Reps K G μ n (ss.map .int) (ss.map V.int)
  | [] => Reps.nil
  | s :: r => Reps.cons (by simp only [Rep]) (ints_back r)
theorem kD_rep {K : Frg} {G : Hp} {μ : Mu} {n : Nat} (k : Key) : Rep K G μ n (kD k) (kV k) := by
  cases k <;> simp only [kD, Rep, kV]
theorem keys_back {K : Frg} {G : Hp} {μ : Mu} {n : Nat} : ∀ {kvs : List (Key × D)} {ws : List (Key × V)}, RepK K G μ n kvs ws → Reps K G μ n (kvs.map fun kv => kD kv.1) (ws.map fun kv => kV kv.1)
  | [], ws, h => by simp only [RepK] at h; rw [h]; exact Reps.nil
  | (k, d) :: r, ws, h => by
    simp only [RepK] at h
    obtain ⟨v, w', rfl, rv, rr⟩ := h
    exact Reps.cons (kD_rep k) (keys_back rr)
theorem RepK.length {K : Frg} {G : Hp} {μ : Mu} {n : Nat} : ∀ {kvs : List (Key × D)} {ws : List (Key × V)}, RepK K G μ n kvs ws → ws.length = kvs.length
  | [], ws, h => by simp only [RepK] at h; rw [h]; rfl
  | (k, d) :: r, ws, h => by
    simp only [RepK] at h
    obtain ⟨v, w', rfl, rv, rr⟩ := h
    rw [List.length_cons, List.length_cons, RepK.length rr]
theorem RepT.length {K : Frg} {G : Hp} {μ : Mu} {n : Nat} : ∀ {kvs : List (List Key × D)} {ws : List (List Key × V)}, RepT K G μ n kvs ws → ws.length = kvs.length
  | [], ws, h => by simp only [RepT] at h; rw [h]; rfl
  | (k, d) :: r, ws, h => by
    simp only [RepT] at h
    obtain ⟨v, w', rfl, rv, rr⟩ := h
    rw [List.length_cons, List.length_cons, RepT.length rr]
theorem RepK.any {K : Frg} {G : Hp} {μ : Mu} {n : Nat} (k : Key) : ∀ {kvs : List (Key × D)} {ws : List (Key × V)}, RepK K G μ n kvs ws → (ws.any fun kv => decide (kv.1 = k)) = kvs.any fun kv => decide (kv.1 = k)
  | [], ws, h => by simp only [RepK] at h; rw [h]; rfl
  | (j, d) :: r, ws, h => by
    simp only [RepK] at h
    obtain ⟨v, w', rfl, rv, rr⟩ := h
    rw [List.any_cons, List.any_cons, RepK.any k rr]
theorem RepK.repl {K : Frg} {G : Hp} {μ : Mu} {n : Nat} (k : Key) {d : D} {v : V} (rd : Rep K G μ n d v) : ∀ {kvs : List (Key × D)} {ws : List (Key × V)}, RepK K G μ n kvs ws →
    RepK K G μ n (kvs.map fun kv => if kv.1 = k then (kv.1, d) else kv) (ws.map fun kv => if kv.1 = k then (kv.1, v) else kv)
  | [], ws, h => by simp only [RepK] at h; rw [h]; simp only [List.map_nil, RepK]
  | (j, x) :: r, ws, h => by
    simp only [RepK] at h
    obtain ⟨u, w', rfl, rv, rr⟩ := h
    rw [List.map_cons, List.map_cons]
    by_cases e : j = k
    · rw [if_pos e, if_pos e]
      simp only [RepK]
      exact ⟨v, _, rfl, rd, RepK.repl k rd rr⟩
    · rw [if_neg e, if_neg e]
      simp only [RepK]
      exact ⟨u, _, rfl, rv, RepK.repl k rd rr⟩
theorem RepK.snoc {K : Frg} {G : Hp} {μ : Mu} {n : Nat} (k : Key) {d : D} {v : V} (rd : Rep K G μ n d v) : ∀ {kvs : List (Key × D)} {ws : List (Key × V)}, RepK K G μ n kvs ws → RepK K G μ n (kvs ++ [(k, d)]) (ws ++ [(k, v)])
  | [], ws, h => by simp only [RepK] at h; rw [h]; simp only [List.nil_append, RepK]; exact ⟨v, [], rfl, rd, rfl⟩
  | (j, x) :: r, ws, h => by
    simp only [RepK] at h
    obtain ⟨u, w', rfl, rv, rr⟩ := h
    rw [List.cons_append, List.cons_append]
    simp only [RepK]
    exact ⟨u, _, rfl, rv, RepK.snoc k rd rr⟩
theorem RepK.put {K : Frg} {G : Hp} {μ : Mu} {n : Nat} (k : Key) {d : D} {v : V} (rd : Rep K G μ n d v) {kvs : List (Key × D)} {ws : List (Key × V)} (h : RepK K G μ n kvs ws) : RepK K G μ n (putKD kvs k d) (putK ws k v) := by
  unfold putKD putK
  rw [RepK.any k h]
  split
  · exact RepK.repl k rd h
  · exact RepK.snoc k rd h
theorem RepT.any {K : Frg} {G : Hp} {μ : Mu} {n : Nat} (k : List Key) : ∀ {kvs : List (List Key × D)} {ws : List (List Key × V)}, RepT K G μ n kvs ws → (ws.any fun kv => decide (kv.1 = k)) = kvs.any fun kv => decide (kv.1 = k)
  | [], ws, h => by simp only [RepT] at h; rw [h]; rfl
  | (j, d) :: r, ws, h => by
    simp only [RepT] at h
    obtain ⟨v, w', rfl, rv, rr⟩ := h
    rw [List.any_cons, List.any_cons, RepT.any k rr]
theorem RepT.repl {K : Frg} {G : Hp} {μ : Mu} {n : Nat} (k : List Key) {d : D} {v : V} (rd : Rep K G μ n d v) : ∀ {kvs : List (List Key × D)} {ws : List (List Key × V)}, RepT K G μ n kvs ws →
    RepT K G μ n (kvs.map fun kv => if kv.1 = k then (kv.1, d) else kv) (ws.map fun kv => if kv.1 = k then (kv.1, v) else kv)
  | [], ws, h => by simp only [RepT] at h; rw [h]; simp only [List.map_nil, RepT]
  | (j, x) :: r, ws, h => by
    simp only [RepT] at h
    obtain ⟨u, w', rfl, rv, rr⟩ := h
    rw [List.map_cons, List.map_cons]
    by_cases e : j = k
    · rw [if_pos e, if_pos e]
      simp only [RepT]
      exact ⟨v, _, rfl, rd, RepT.repl k rd rr⟩
    · rw [if_neg e, if_neg e]
      simp only [RepT]
      exact ⟨u, _, rfl, rv, RepT.repl k rd rr⟩
theorem RepT.snoc {K : Frg} {G : Hp} {μ : Mu} {n : Nat} (k : List Key) {d : D} {v : V} (rd : Rep K G μ n d v) : ∀ {kvs : List (List Key × D)} {ws : List (List Key × V)}, RepT K G μ n kvs ws → RepT K G μ n (kvs ++ [(k, d)]) (ws ++ [(k, v)])
  | [], ws, h => by simp only [RepT] at h; rw [h]; simp only [List.nil_append, RepT]; exact ⟨v, [], rfl, rd, rfl⟩
  | (j, x) :: r, ws, h => by
    simp only [RepT] at h
    obtain ⟨u, w', rfl, rv, rr⟩ := h
    rw [List.cons_append, List.cons_append]
    simp only [RepT]
    exact ⟨u, _, rfl, rv, RepT.snoc k rd rr⟩
theorem RepT.put {K : Frg} {G : Hp} {μ : Mu} {n : Nat} (k : List Key) {d : D} {v : V} (rd : Rep K G μ n d v) {kvs : List (List Key × D)} {ws : List (List Key × V)} (h : RepT K G μ n kvs ws) : RepT K G μ n (putKD kvs k d) (putK ws k v) := by
  unfold putKD putK
  rw [RepT.any k h]
  split
  · exact RepT.repl k rd h
  · exact RepT.snoc k rd h
theorem merge_rep {K : Frg} {G : Hp} {μ : Mu} {n : Nat} : ∀ {more : List (Key × D)} {ms : List (Key × V)} {kvs : List (Key × D)} {ws : List (Key × V)}, RepK K G μ n more ms → RepK K G μ n kvs ws → RepK K G μ n (mergeD kvs more) (mergeK ws ms)
  | [], ms, kvs, ws, h, r => by simp only [RepK] at h; rw [h]; exact r
  | (k, d) :: more, ms, kvs, ws, h, r => by
    simp only [RepK] at h
    obtain ⟨v, w', rfl, rv, rr⟩ := h
    show RepK K G μ n (mergeD (putKD kvs k d) more) (mergeK (putK ws k v) w')
    exact merge_rep rr (r.put k rv)
theorem len_ok : CallR X (.builtin "len") (rb X.K (biD .len)) := by
  intro pins s σ H xs us Q I r h
  obtain ⟨μ, Ω, ds, d, w, va, e, k⟩ := h
  match ds, e with
  | [c], e =>
    obtain ⟨v, rfl, vc⟩ := paired1 va
    have fin : ∀ n : Nat, LenV X.K v H n → d = .int n → wpAny (model X.prog X.w) X.A (call (.builtin "len") us) (EP X pins σ Q) X.xe s := fun n hn he => by
      subst he
      exact call_len pins s σ H [v] us Q I r ⟨v, n, rfl, hn, k.int w⟩
    cases c with
    | str z =>
      obtain ⟨hz, e1⟩ := opt_if (show (if z.length ≤ big then some (D.int z.length) else none) = some d from e)
      simp only [View] at vc
      subst vc
      exact fin z.length ⟨big_eq ▸ hz, rfl⟩ e1.symm
    | dk kvs =>
      cases e
      obtain ⟨p, ws, rfl, rr, c⟩ := vc
      obtain ⟨u, rfl, ru⟩ := vals1 r
      cases ru
      exact d_len I c fun t s' I' => ⟨.int ws.length, H, I', ⟨t, rfl⟩, by rw [rr.length]; exact k.int w⟩
    | dt kvs =>
      cases e
      obtain ⟨p, ws, rfl, rr, c⟩ := vc
      obtain ⟨u, rfl, ru⟩ := vals1 r
      cases ru
      obtain ⟨z, hd, ys, q1, dd⟩ := dt_rd I.hok c
      have e1 : ws.length = ys.length := Paired.length q1
      refine call_len_dictH hd dd (by rw [← e1]; have := line63; omega) ?_
      rw [← e1]
      exact ⟨.int ((ws.length : Nat) : Int), H, I.tok _, ⟨_, rfl⟩, by rw [rr.length]; exact k.int w⟩
    | lst ys => cases e; exact fin _ (len_seq vc rfl) rfl
    | tup ys => cases e; exact fin _ (len_seq vc rfl) rfl
    | e0 => cases e; exact fin _ (len_seq vc rfl) rfl
    | scr ys => cases e; exact fin _ (len_seq vc rfl) rfl
    | _ => cases e
  | [], e => cases e
  | _ :: _ :: _, e => cases e
theorem abs_ok : CallR X (.builtin "abs") (rb X.K (biD .abs)) := by
  intro pins s σ H xs us Q I r h
  obtain ⟨μ, Ω, ds, d, w, va, e, k⟩ := h
  match ds, e with
  | [.int i], e =>
    obtain ⟨v, rfl, vc⟩ := paired1 va
    cases e
    simp only [View] at vc
    subst vc
    exact call_abs pins s σ H _ us Q I r ⟨i, rfl, k.int w⟩
theorem all_ok (hc : X.calm = true) : CallR X (.builtin "all") (rb X.K (biD .all)) := by
  intro pins s σ H xs us Q I r h
  obtain ⟨μ, Ω, ds, d, w, va, e, k⟩ := h
  match ds, e with
  | [.lst ys], e =>
    obtain ⟨v, rfl, vc⟩ := paired1 va
    obtain ⟨bs, e1, rfl⟩ := Option.map_eq_some_iff.mp (show (boolsD ys).map (fun bs => D.bl (bs.all id)) = some d from e)
    obtain ⟨p, vs, rfl, rr, z, c⟩ := vc
    rw [bools_rep rr e1] at c
    exact cr_all hc pins s σ H _ us Q I r ⟨p, bs, rfl, .inl (.inl c), k.bl w⟩
theorem any_ok (hc : X.calm = true) : CallR X (.builtin "any") (rb X.K (biD .any)) := by
  intro pins s σ H xs us Q I r h
  obtain ⟨μ, Ω, ds, d, w, va, e, k⟩ := h
  match ds, e with
  | [.lst ys], e =>
    obtain ⟨v, rfl, vc⟩ := paired1 va
    obtain ⟨bs, e1, rfl⟩ := Option.map_eq_some_iff.mp (show (boolsD ys).map (fun bs => D.bl (bs.any id)) = some d from e)
    obtain ⟨p, vs, rfl, rr, z, c⟩ := vc
    rw [bools_rep rr e1] at c
    exact cr_any hc pins s σ H _ us Q I r ⟨p, bs, rfl, .inl (.inl c), k.bl w⟩
theorem int_ok : CallR X (.type "int") (rb X.K (biD .int)) := by
  intro pins s σ H xs us Q I r h
  obtain ⟨μ, Ω, ds, d, w, va, e, k⟩ := h
  match ds, e with
  | [.int i], e =>
    obtain ⟨v, rfl, vc⟩ := paired1 va
    cases e
    simp only [View] at vc
    subst vc
    exact call_int1 pins s σ H _ us Q I r (.inl ⟨i, rfl, k.int w⟩)
  | [.bl b], e =>
    obtain ⟨v, rfl, vc⟩ := paired1 va
    cases e
    simp only [View] at vc
    subst vc
    exact call_int1 pins s σ H _ us Q I r (.inr ⟨b, rfl, k.int w⟩)
theorem str_ok : CallR X (.type "str") (rb X.K (biD .str)) := by
  intro pins s σ H xs us Q I r h
  obtain ⟨μ, Ω, ds, d, w, va, e, k⟩ := h
  match ds, e with
  | [.str i], e =>
    obtain ⟨v, rfl, vc⟩ := paired1 va
    cases e
    simp only [View] at vc
    subst vc
    exact SkE.call_str_str pins s σ H _ us Q I r ⟨i, rfl, k.str w⟩
  | [.int i], e =>
    obtain ⟨v, rfl, vc⟩ := paired1 va
    obtain ⟨hz, rfl⟩ := opt_if (show (if i.natAbs.log2 < 1920 then some (D.str (toString i)) else none) = some d from e)
    simp only [View] at vc
    subst vc
    exact call_str_int pins s σ H _ us Q I r ⟨i, rfl, hz, k.str w⟩
theorem list_dk {pins : List (Addr × Obj)} {s : Shared} {σ : St} {H : Hp} {p : Addr} {kvs : List (Key × V)} {Q : VK} (hc : X.calm = true) (I : Inv X pins σ H s) (c : Rd H p (.dK kvs))
    (q : ∀ a, H a = none → Q (.ref a) (upd H a (.lst (kvs.map fun kv => kV kv.1)))) : wpAny (model X.prog X.w) X.A (call (.type "list") [.ref p]) (EP X pins σ Q) X.xe s := by
  obtain ⟨z, lo, vs, rk, hd⟩ := dk_rd I.hok c
  obtain ⟨ep, hat⟩ := hd.dictAt
  have hl : kvs.length = vs.length := KV.length rk
  have hz : vs.length ≤ sizeLine := hl ▸ z
  have ek : (kvs.map fun kv => kV kv.1) = (vs.map (·.1)).map kV := by
    rw [← KV.keys rk, List.map_map]
    rfl
  refine PySem.W.kdl_call (PySem.W.kdl_dict (knd := mixKind X.prog X.w) (kvs := vs) (ep := ep) lo) (I.ok.hd hc) hat hz fun h' tk acc' c' hkeep hS hacc => ?_
  have vals : Vals (kvs.map fun kv => kV kv.1) acc'.toList := by
    rw [ek]
    refine vals_of_at ?_ fun j x w h1 h2 => ?_
    · have ea : acc'.size = vs.length := hacc.1
      have eb : acc'.toList.length = acc'.size := by simp
      rw [List.length_map, List.length_map, eb, ea]
    · rw [Array.getElem?_toList] at h2
      obtain ⟨k, y, hky, hi⟩ := hacc.2 j w h2
      rw [List.getElem?_map, List.getElem?_map, hky] at h1
      cases h1
      exact keyIs_rel hi
  have new : ObjOk X.prog X.w (upd H s.heap.objs.size (.lst (kvs.map fun kv => kV kv.1))) h' s.heap.objs.size (.lst (kvs.map fun kv => kV kv.1)) :=
    ⟨by rw [List.length_map]; exact z, acc'.toList, c', vals, by rw [Array.toArray_toList]; exact hS⟩
  exact ⟨.ref s.heap.objs.size, _, I.laid hkeep (Nat.le_refl _) new, rfl, q _ (I.hok.fresh (Nat.le_refl _))⟩
theorem keysR0 {K : Frg} {G : Hp} {μ : Mu} {n : Nat} : ∀ (k : List Key), Reps K G μ n (k.map kD) (k.map kV)
  | [] => Reps.nil
  | q :: k => Reps.cons (kD_rep q) (keysR0 k)
theorem isKeys_rep {K : Frg} {H : Hp} {μ : Mu} {Ω : Sto} {n : Nat} (w : Wf K H μ Ω) : ∀ {kvs : List (List Key × D)} {ws : List (List Key × V)} {bs : List Addr}, (∀ kv ∈ kvs, kv.1.length ≤ big) → RepT K (Fz H μ Ω) μ n kvs ws → IsKeys H ws bs →
    Reps K (Fz H μ Ω) μ n (kvs.map fun kv => .tup (kv.1.map kD)) (bs.map V.ref)
  | [], ws, bs, _, h, b => by
    simp only [RepT] at h
    subst h
    cases b
    exact Reps.nil
  | (q, d) :: r, ws, bs, z, h, b => by
    simp only [RepT] at h
    obtain ⟨u, w', rfl, ru, rr⟩ := h
    cases b with
    | @cons _ c _ cs hb t =>
      refine Reps.cons ?_ (isKeys_rep w (fun kv hm => z kv (List.mem_cons_of_mem _ hm)) rr t)
      simp only [Rep]
      exact ⟨c, _, rfl, keysR0 q, by rw [List.length_map, ← big_eq]; exact z _ (List.mem_cons_self ..), .inl (Fz.tup w hb)⟩
theorem list_ok (hc : X.calm = true) : CallR X (.type "list") (rb X.K (biD .list)) := by
  intro pins s σ H xs us Q I r h
  obtain ⟨μ, Ω, ds, d, w, va, e, k⟩ := h
  have seq : ∀ (c : D) (ys : List D), ds = [c] → seqD c = some ys → d = .lst ys → wpAny (model X.prog X.w) X.A (call (.type "list") us) (EP X pins σ Q) X.xe s := fun c ys e1 e2 e3 => by
    subst e1 e3
    obtain ⟨v, rfl, vc⟩ := paired1 va
    obtain ⟨p, vs, rfl, rr, z, c⟩ := view_seq vc e2
    exact call_list_of pins s σ H _ us Q I r ⟨p, vs, rfl, c, k.lst w rr z⟩
  match ds, e with
  | [.dk kvs], e =>
    cases e
    obtain ⟨v, rfl, vc⟩ := paired1 va
    obtain ⟨p, ws, rfl, rr, c⟩ := vc
    obtain ⟨u, rfl, ru⟩ := vals1 r
    cases ru
    exact list_dk hc I c (k.lst w (keys_back rr) (by rw [List.length_map]; exact (dk_rd I.hok c).1))
  | [.lst ys], e => cases e; exact seq _ ys rfl rfl rfl
  | [.tup ys], e => cases e; exact seq _ ys rfl rfl rfl
  | [.e0], e => cases e; exact seq _ [] rfl rfl rfl
  | [.scr ns], e => cases e; exact seq _ _ rfl rfl rfl
  | [.non], e => cases e
  | [.bl _], e => cases e
  | [.int _], e => cases e
  | [.str _], e => cases e
  | [.dt kvs], e =>
    have e : (if kvs.all (fun kv => decide (kv.1.length ≤ big)) = true then some (D.lst (kvs.map fun kv => D.tup (kv.1.map kD))) else none) = some d := e
    by_cases hz : kvs.all (fun kv => decide (kv.1.length ≤ big)) = true
    · rw [if_pos hz] at e
      cases e
      obtain ⟨v, rfl, vc⟩ := paired1 va
      obtain ⟨p, ws, rfl, rr, c⟩ := vc
      refine call_list_dT hc pins s σ H _ us Q I r ⟨p, ws, rfl, c, fun q bs hq hb => ?_⟩
      have rk := isKeys_rep w (fun kv hm => of_decide_eq_true (List.all_eq_true.mp hz kv hm)) rr hb
      exact k.lst w rk (by rw [rk.length, List.length_map, ← rr.length]; exact (dt_rd I.hok c).1) q hq
    · rw [if_neg hz] at e
      cases e
  | [.ins _ _], e => cases e
  | [.hd _], e => cases e
  | [], e => cases e
  | _ :: _ :: _, e => cases e
theorem tuple_ok : CallR X (.type "tuple") (rb X.K (biD .tuple)) := by
  intro pins s σ H xs us Q I r h
  obtain ⟨μ, Ω, ds, d, w, va, e, k⟩ := h
  match ds, e with
  | [.lst ys], e =>
    cases e
    obtain ⟨v, rfl, vc⟩ := paired1 va
    obtain ⟨p, vs, rfl, rr, z, c⟩ := vc
    exact call_tuple_of pins s σ H _ us Q I r ⟨p, vs, rfl, .inl ⟨.inl (.inl c), k.tup w rr z⟩⟩
  | [.tup ys], e =>
    cases e
    obtain ⟨v, rfl, vc⟩ := paired1 va
    obtain ⟨p, vs, rfl, rr, z, c, _, rp⟩ := vc
    exact call_tuple_of pins s σ H _ us Q I r ⟨p, vs, rfl, .inr ⟨c, k.now w rp⟩⟩
theorem pairs_rep {K : Frg} {H : Hp} {μ : Mu} {Ω : Sto} {n : Nat} : ∀ {xs : List D} {vs : List V} {kvs : List (Key × D)}, Reps K (Fz H μ Ω) μ n xs vs → pairsD xs = some kvs →
    ∃ (ps : List Addr) (ws : List (Key × V)), vs = ps.map V.ref ∧ RepK K (Fz H μ Ω) μ n kvs ws ∧ Paired (fun p kv => SqT K H p [kV kv.1, kv.2]) ps ws
  | [], vs, kvs, h, e => by
    simp only [Reps] at h
    cases e
    exact ⟨[], [], h, by simp only [RepK], .nil⟩
  | d :: ds, vs, kvs, h, e => by
    simp only [Reps] at h
    obtain ⟨v, us, rfl, r, rs⟩ := h
    match d, e with
    | .tup [a, b], e =>
      unfold pairsD at e
      cases e1 : keyD a with
      | none => rw [e1] at e; cases e
      | some q =>
        cases e2 : pairsD ds with
        | none => rw [e1, e2] at e; cases e
        | some more =>
          rw [e1, e2] at e
          cases e
          obtain ⟨ps, ws, rfl, rr, pp⟩ := pairs_rep rs e2
          simp only [Rep, Reps] at r
          obtain ⟨p, zs, rfl, ⟨x, ys, rfl, rx, y, l, rfl, ry, rfl⟩, z, c⟩ := r
          have hx := key_rep rx e1
          subst hx
          refine ⟨p :: ps, (q, y) :: ws, rfl, ?_, .cons ?_ pp⟩
          · simp only [RepK]
            exact ⟨y, ws, rfl, ry, rr⟩
          · rcases c with c | ⟨_, c⟩
            · exact .inl (.inl (Fz.le c))
            · exact Fz.sqt c
theorem mergeT_rep {K : Frg} {G : Hp} {μ : Mu} {n : Nat} : ∀ {more : List (List Key × D)} {ms : List (List Key × V)} {kvs : List (List Key × D)} {ws : List (List Key × V)}, RepT K G μ n more ms → RepT K G μ n kvs ws → RepT K G μ n (mergeD kvs more) (mergeT ws ms)
  | [], ms, kvs, ws, h, r => by simp only [RepT] at h; rw [h]; exact r
  | (k, d) :: more, ms, kvs, ws, h, r => by
    simp only [RepT] at h
    obtain ⟨v, w', rfl, rv, rr⟩ := h
    show RepT K G μ n (mergeD (putKD kvs k d) more) (mergeT (putK ws k v) w')
    exact mergeT_rep rr (r.put k rv)
theorem tkey_rep {K : Frg} {H : Hp} {μ : Mu} {Ω : Sto} {n : Nat} {d : D} {v : V} {k : List Key} (h : Rep K (Fz H μ Ω) μ n d v) (e : tkeyD d = some k) : ∃ b, v = .ref b ∧ H b = some (.tup (k.map kV)) := by
  cases d with
  | tup xs =>
    have e : (if fracB xs = true then none else keysD xs) = some k := e
    cases hf : fracB xs with
    | true => rw [hf, if_pos rfl] at e; cases e
    | false =>
      rw [hf, if_neg Bool.false_ne_true] at e
      simp only [Rep] at h
      obtain ⟨p, vs, e1, r, z, c⟩ := h
      rw [keys_rep r e] at c
      rcases c with c | ⟨c, _⟩
      · exact ⟨p, e1, Fz.le c⟩
      · rw [hf] at c; cases c
  | _ => cases e
theorem tpairs_rep {K : Frg} {H : Hp} {μ : Mu} {Ω : Sto} {n : Nat} : ∀ {xs : List D} {vs : List V} {kvs : List (List Key × D)}, Reps K (Fz H μ Ω) μ n xs vs → tpairsD xs = some kvs →
    ∃ (ps : List Addr) (ws : List (List Key × V)), vs = ps.map V.ref ∧ RepT K (Fz H μ Ω) μ n kvs ws ∧ Paired (fun p kv => ∃ b : Addr, SqT K H p [.ref b, kv.2] ∧ H b = some (.tup (kv.1.map kV))) ps ws
  | [], vs, kvs, h, e => by
    simp only [Reps] at h
    cases e
    exact ⟨[], [], h, by simp only [RepT], .nil⟩
  | d :: ds, vs, kvs, h, e => by
    simp only [Reps] at h
    obtain ⟨v, us, rfl, r, rs⟩ := h
    match d, e with
    | .tup [a, b], e =>
      unfold tpairsD at e
      cases e1 : tkeyD a with
      | none => rw [e1] at e; cases e
      | some q =>
        cases e2 : tpairsD ds with
        | none => rw [e1, e2] at e; cases e
        | some more =>
          rw [e1, e2] at e
          cases e
          obtain ⟨ps, ws, rfl, rr, pp⟩ := tpairs_rep rs e2
          simp only [Rep, Reps] at r
          obtain ⟨p, zs, rfl, ⟨x, ys, rfl, rx, y, l, rfl, ry, rfl⟩, z, c⟩ := r
          obtain ⟨b, rfl, hb⟩ := tkey_rep rx e1
          refine ⟨p :: ps, (q, y) :: ws, rfl, ?_, .cons ⟨b, ?_, hb⟩ pp⟩
          · simp only [RepT]
            exact ⟨y, ws, rfl, ry, rr⟩
          · rcases c with c | ⟨_, c⟩
            · exact .inl (.inl (Fz.le c))
            · exact Fz.sqt c
theorem dict_ok (hc : X.calm = true) (hu : X.A.units + 64 < cLine) : CallR X (.type "dict") (rb X.K (biD .dict)) := by
  intro pins s σ H xs us Q I r h
  obtain ⟨μ, Ω, ds, d, w, va, e, k⟩ := h
  match ds, e with
  | [.dk kvs], e =>
    cases e
    obtain ⟨v, rfl, vc⟩ := paired1 va
    obtain ⟨p, ws, rfl, rr, c⟩ := vc
    obtain ⟨u, rfl, ru⟩ := vals1 r
    cases ru
    refine d_copyOf I c fun p' s' hp I' => ?_
    obtain ⟨od, I2⟩ := I'.lock upd_same trivial
    rw [upd_upd] at I2
    obtain ⟨ex, rp⟩ := res_dk (od := od) w rr hp
    exact ⟨.ref p', _, I2, rfl, k _ _ ex rp⟩
  | [.lst ys], e =>
    obtain ⟨v, rfl, vc⟩ := paired1 va
    have e : (match pairsD ys with | some kvs => some (D.dk (mergeD [] kvs)) | none => (tpairsD ys).map fun kvs => D.dt (mergeD [] kvs)) = some d := e
    obtain ⟨p, vs, rfl, rr, z, c⟩ := vc
    cases e1 : pairsD ys with
    | none =>
      rw [e1] at e
      obtain ⟨kvs, e2, rfl⟩ := Option.map_eq_some_iff.mp e
      obtain ⟨ps, ws, rfl, r2, pp⟩ := tpairs_rep rr e2
      refine CallR.lock (call_dictPT hc hu) pins s σ H _ us Q I r ⟨p, ps, ws, rfl, .inl (.inl c), pp, fun p' hp => ⟨p', _, rfl, upd_same, trivial, fun od => ?_⟩⟩
      rw [upd_upd]
      obtain ⟨ex, rp⟩ := res_dt (od := od) w (mergeT_rep r2 (by simp only [RepT] : RepT X.K (Fz H μ Ω) μ Ω.length [] [])) hp
      exact k _ _ ex rp
    | some kvs =>
    rw [e1] at e
    cases e
    obtain ⟨ps, ws, rfl, r2, pp⟩ := pairs_rep rr e1
    refine CallR.lock (call_dictP hc) pins s σ H _ us Q I r ⟨p, ps, ws, rfl, .inl (.inl c), pp, fun p' hp => ⟨p', _, rfl, upd_same, trivial, fun od => ?_⟩⟩
    rw [upd_upd]
    obtain ⟨ex, rp⟩ := res_dk (od := od) w (merge_rep r2 (by simp only [RepK] : RepK X.K (Fz H μ Ω) μ Ω.length [] [])) hp
    exact k _ _ ex rp
theorem sum_ok (hc : X.calm = true) : CallR X (.builtin "sum") (rb X.K (biD .sum)) := by
  intro pins s σ H xs us Q I r h
  obtain ⟨μ, Ω, ds, d, w, va, e, k⟩ := h
  match ds, e with
  | [.lst ys], e =>
    obtain ⟨v, rfl, vc⟩ := paired1 va
    obtain ⟨bs, e1, rfl⟩ := Option.map_eq_some_iff.mp (show (intsD ys).map (fun ns => D.int ns.sum) = some d from e)
    obtain ⟨p, vs, rfl, rr, z, c⟩ := vc
    rw [ints_rep rr e1] at c
    exact cr_sum hc pins s σ H _ us Q I r ⟨p, bs, rfl, .inl (.inl c), k.int w⟩
theorem fold_min : ∀ (xs : List Int) (x : Int), (xs.foldl min x = x ∨ xs.foldl min x ∈ xs) ∧ xs.foldl min x ≤ x ∧ ∀ y ∈ xs, xs.foldl min x ≤ y
  | [], x => ⟨.inl rfl, Int.le_refl _, by simp⟩
  | z :: xs, x => by
    obtain ⟨h1, h2, h3⟩ := fold_min xs (min x z)
    rw [List.foldl_cons]
    refine ⟨?_, by omega, fun y hy => ?_⟩
    · rcases h1 with h | h
      · rw [h]
        by_cases hx : x ≤ z
        · exact .inl (Int.min_eq_left hx)
        · exact .inr (by rw [Int.min_eq_right (by omega)]; exact List.mem_cons_self ..)
      · exact .inr (List.mem_cons_of_mem _ h)
    · rcases List.mem_cons.mp hy with rfl | hy
      · omega
      · exact h3 y hy
theorem minI_ok {ns : List Int} {m : Int} (h : minI ns = some m) : 0 < ns.length ∧ m ∈ ns ∧ ∀ y ∈ ns, m ≤ y := by
  cases ns with
  | nil => cases h
  | cons x xs =>
    have h : xs.foldl min x = m := Option.some.inj h
    obtain ⟨h1, h2, h3⟩ := fold_min xs x
    rw [h] at h1 h2 h3
    refine ⟨by simp, ?_, fun y hy => ?_⟩
    · rcases h1 with h | h
      · rw [h]; exact List.mem_cons_self ..
      · exact List.mem_cons_of_mem _ h
    · rcases List.mem_cons.mp hy with rfl | hy
      · exact h2
      · exact h3 y hy
theorem min_ok (hc : X.calm = true) : CallR X (.builtin "min") (rb X.K (biD .mn)) := by
  intro pins s σ H xs us Q I r h
  obtain ⟨μ, Ω, ds, d, w, va, e, k⟩ := h
  match ds, e with
  | [.lst ys], e =>
    obtain ⟨v, rfl, vc⟩ := paired1 va
    have e : (match intsD ys with | some ns => (minI ns).map D.int | none => none) = some d := e
    obtain ⟨p, vs, rfl, rr, z, c⟩ := vc
    cases e1 : intsD ys with
    | none => rw [e1] at e; cases e
    | some bs =>
      rw [e1] at e
      obtain ⟨m, e2, rfl⟩ := Option.map_eq_some_iff.mp e
      rw [ints_rep rr e1] at c
      obtain ⟨h1, h2, h3⟩ := minI_ok e2
      refine cr_min hc pins s σ H _ us Q I r ⟨p, bs, rfl, .inl (.inl c), h1, fun m' hm hl => ?_⟩
      have : m' = m := Int.le_antisymm (hl m h2) (h3 m' hm)
      rw [this]
      exact k.int w
end
end Rf
end
section
namespace Rf
open PySem L2
section
variable {K : Frg} {W : WX} {σ : St} {H H' : Hp} {μ μ' : Mu} {Ω Ω' : Sto} {ρ : Env} {ft : FT}
theorem Post.opt {α β : Type} {rel : Rl α β} {o : Option α} {Q : β → Hp → Prop} (p : Post K rel W σ H μ Ω (Rf.opt o Ω) Q) : ∃ a, o = some a ∧ ∀ b H', Ext K H μ Ω H' μ Ω → rel H' μ Ω a b → Q b H' := by
  cases o with
  | none => exact p.ne
  | some a => exact ⟨a, rfl, fun b H' e r => p b H' μ e r⟩
theorem Post.optD {o : Option D} {Q : VK} (p : Post K (rD K) W σ H μ Ω (Rf.opt o Ω) Q) : ∃ d, o = some d ∧ Want K H μ Ω d Q := p.opt
theorem two {a b : E} {f : D → D → Sto → R D} {Q : VK} (at_ : At K σ H μ Ω ρ) (p : Post K (rD K) W σ H μ Ω ((evE ft a ρ Ω).bind fun x Ω => (evE ft b ρ Ω).bind fun y Ω => f x y Ω) Q) :
    TEv K W ft a σ H fun v H1 => TEv K W ft b σ H1 fun u H2 => ∃ μ2 Ω2 x y, At K σ H2 μ2 Ω2 ρ ∧ Rep K (Fz H2 μ2 Ω2) μ2 Ω2.length x v ∧ Rep K (Fz H2 μ2 Ω2) μ2 Ω2.length y u ∧ Post K (rD K) W σ H2 μ2 Ω2 (f x y Ω2) Q := by
  refine ⟨μ, Ω, ρ, at_, (Post.bind p).mono ?_⟩
  rintro v H1 ⟨μ1, Ω1, x, _, ex1, r1, p1⟩
  refine ⟨μ1, Ω1, ρ, at_.ext ex1, (Post.bind p1).mono ?_⟩
  rintro u H2 ⟨μ2, Ω2, y, _, ex2, r2, p2⟩
  exact ⟨μ2, Ω2, x, y, (at_.ext ex1).ext ex2, Rep.tr ex2.tr _ _ r1, r2, p2⟩
theorem one {a : E} {f : D → Sto → R D} {Q : VK} (at_ : At K σ H μ Ω ρ) (p : Post K (rD K) W σ H μ Ω ((evE ft a ρ Ω).bind f) Q) :
    TEv K W ft a σ H fun v H1 => ∃ μ1 Ω1 x, At K σ H1 μ1 Ω1 ρ ∧ Rep K (Fz H1 μ1 Ω1) μ1 Ω1.length x v ∧ Post K (rD K) W σ H1 μ1 Ω1 (f x Ω1) Q := by
  refine ⟨μ, Ω, ρ, at_, (Post.bind p).mono ?_⟩
  rintro v H1 ⟨μ1, Ω1, x, _, ex1, r1, p1⟩
  exact ⟨μ1, Ω1, x, at_.ext ex1, r1, p1⟩
theorem many {es : EL} {f : List D → Sto → R D} {Q : VK} (at_ : At K σ H μ Ω ρ) (p : Post K (rD K) W σ H μ Ω ((evL ft es ρ Ω).bind f) Q) :
    TAv K W ft es σ H fun vs H1 => ∃ μ1 Ω1 ds, At K σ H1 μ1 Ω1 ρ ∧ Reps K (Fz H1 μ1 Ω1) μ1 Ω1.length ds vs ∧ Post K (rD K) W σ H1 μ1 Ω1 (f ds Ω1) Q := by
  refine ⟨μ, Ω, ρ, at_, (Post.bind p).mono ?_⟩
  rintro v H1 ⟨μ1, Ω1, x, _, ex1, r1, p1⟩
  exact ⟨μ1, Ω1, x, at_.ext ex1, r1, p1⟩
theorem views : ∀ {ds : List D} {vs : List V} (w : Wf K H μ Ω), Reps K (Fz H μ Ω) μ Ω.length ds vs → Paired (View K H μ Ω) (ds.map (lk Ω)) vs
  | [], vs, w, h => by simp only [Reps] at h; subst h; exact .nil
  | d :: ds, vs, w, h => by
    simp only [Reps] at h
    obtain ⟨v, ws, rfl, r, rs⟩ := h
    exact .cons (view w r) (views w rs)
theorem pbool {d : D} {α β : Type} {rel : Rl α β} {f : Bool → Sto → R α} {Q : β → Hp → Prop} (p : Post K rel W σ H μ Ω ((asBool d Ω).bind f) Q) : ∃ b, d = .bl b ∧ Post K rel W σ H μ Ω (f b Ω) Q := by
  cases d with
  | bl b => exact ⟨b, rfl, p⟩
  | _ => exact False.elim p
end
section
variable {X : Cx} {W : WX} {ft : FT} {pos : Pos} {l r m : Expr} {a b c : E} {es : List Expr} {el : EL}
theorem s_non {k : Nat} : PE X (.Constant .none k pos) (TEv X.K W ft .non) := pe_non.imp fun σ H Q ⟨μ, Ω, ρ, at_, p⟩ => p.here at_.wf (by simp only [rD, Rep])
theorem s_bl {k : Nat} {t : Bool} : PE X (.Constant (.bool t) k pos) (TEv X.K W ft (.bl t)) := pe_bl.imp fun σ H Q ⟨μ, Ω, ρ, at_, p⟩ => p.here at_.wf (by simp only [rD, Rep])
theorem s_int {k : Nat} {t : Int} : PE X (.Constant (.int t) k pos) (TEv X.K W ft (.int t)) := pe_int.imp fun σ H Q ⟨μ, Ω, ρ, at_, p⟩ => p.here at_.wf (by simp only [rD, Rep])
theorem s_str {k : Nat} {t : Str} : PE X (.Constant (.str t) k pos) (TEv X.K W ft (.str t)) := pe_str.imp fun σ H Q ⟨μ, Ω, ρ, at_, p⟩ => p.here at_.wf (by simp only [rD, Rep])
theorem s_var {i : Nat} {x : Str} (hN : X.N[i]? = some x) (hv : Vis X.env.scope x) (hd : (x == ("__debug__" : Str)) = false) (hcd : (x == ("__classdict__" : Str)) = false) : PE X (.Name x pos) (TEv X.K W ft (.var i)) := by
  refine (pe_var hN hv hd hcd).imp fun σ H Q ⟨μ, Ω, ρ, at_, p⟩ => ?_
  have p : Post X.K (rD X.K) W σ H μ Ω (match (ρ[i]? : Option (Option D)) with | some (some d) => .ok d Ω | _ => .bad) Q := p
  cases e : ρ[i]? with
  | none => rw [e] at p; exact False.elim p
  | some o =>
    cases o with
    | none => rw [e] at p; exact False.elim p
    | some d =>
      rw [e] at p
      obtain ⟨v, e1, rv⟩ := at_.env.2 i d e
      exact ⟨v, e1, p.here at_.wf rv⟩
theorem s_glo {x : Str} {d : D} {v : V} {u : Value} (hg : Gl X x) (hm : X.mg x = some u) (rv : RelV v u) (hd : (x == ("__debug__" : Str)) = false) (hc : ft.con x = some d) (hr : ∀ G μ n, Rep X.K G μ n d v) : PE X (.Name x pos) (TEv X.K W ft (.glo x)) := by
  refine (pe_glob hg hm rv hd).imp fun σ H Q ⟨μ, Ω, ρ, at_, p⟩ => ?_
  have p : Post X.K (rD X.K) W σ H μ Ω (opt (ft.con x) Ω) Q := p
  rw [hc] at p
  exact p.here at_.wf (hr _ _ _)
theorem s_op2 {o : Operator} (ha : PE X l (TEv X.K W ft a)) (hb : PE X r (TEv X.K W ft b)) : PE X (.BinOp l o r pos) (TEv X.K W ft (.op2 o a b)) := by
  refine (pe_op (op2_ok o) ha hb).imp fun σ H Q ⟨μ, Ω, ρ, at_, p⟩ => ?_
  obtain ⟨μ0, Ω0, ρ0, a0, p0⟩ := two at_ p
  refine ⟨μ0, Ω0, ρ0, a0, p0.mono ?_⟩
  rintro v H1 ⟨μ1, Ω1, ρ1, a1, p1⟩
  refine ⟨μ1, Ω1, ρ1, a1, p1.mono ?_⟩
  rintro u H2 ⟨μ2, Ω2, x, y, a2, r1, r2, p2⟩
  obtain ⟨d, e, k⟩ := p2.optD
  exact ⟨μ2, Ω2, _, _, d, a2.wf, view a2.wf r1, view a2.wf r2, e, k⟩
theorem s_neg (ha : PE X l (TEv X.K W ft a)) : PE X (.UnaryOp .USub l pos) (TEv X.K W ft (.neg a)) := by
  refine (pe_un un_neg ha).imp fun σ H Q ⟨μ, Ω, ρ, at_, p⟩ => ?_
  obtain ⟨μ0, Ω0, ρ0, a0, p0⟩ := one at_ p
  refine ⟨μ0, Ω0, ρ0, a0, p0.mono ?_⟩
  rintro v H1 ⟨μ1, Ω1, x, a1, r1, p1⟩
  cases x with
  | int i =>
    simp only [Rep] at r1
    exact ⟨i, r1, Post.here (rel := rD X.K) p1 a1.wf (by simp only [rD, Rep])⟩
  | _ => exact False.elim p1
theorem s_not (ha : PE X l (TEv X.K W ft a)) : PE X (.UnaryOp .Not l pos) (TEv X.K W ft (.not a)) := by
  refine (pe_not ha).imp fun σ H Q ⟨μ, Ω, ρ, at_, p⟩ => ?_
  obtain ⟨μ0, Ω0, ρ0, a0, p0⟩ := one at_ p
  refine ⟨μ0, Ω0, ρ0, a0, p0.mono ?_⟩
  rintro v H1 ⟨μ1, Ω1, x, a1, r1, p1⟩
  obtain ⟨t, rfl, p2⟩ := pbool p1
  simp only [Rep] at r1
  exact ⟨t, r1, Post.here (rel := rD X.K) p2 a1.wf (by simp only [rD, Rep])⟩
theorem tt_te {e : E} {σ : St} {H : Hp} {Q : Bool → Hp → Prop} (h : TTv X.K W ft e σ H Q) : TEv X.K W ft e σ H fun x H1 => ∃ c, x = .bl c ∧ Q c H1 := by
  obtain ⟨μ, Ω, ρ, at_, p⟩ := h
  refine ⟨μ, Ω, ρ, at_, (Post.bind (rel := rD X.K) (show Post X.K rQ W σ H μ Ω ((evE ft e ρ Ω).bind asBool) Q from p)).mono ?_⟩
  rintro v H1 ⟨μ1, Ω1, x, _, ex1, r1, p1⟩
  cases x with
  | bl t =>
    simp only [rD, Rep] at r1
    exact ⟨t, r1, Post.here (rel := rQ) p1 ex1.wf rfl⟩
  | _ => exact False.elim p1
theorem i_cmp {o : CmpOp} {σ : St} {H : Hp} {Q : VK} (h : TEv X.K W ft (.cmp o a b) σ H Q) : tOp (rc X.K (cmpD o)) (TEv X.K W ft a) (TEv X.K W ft b) σ H Q := by
  obtain ⟨μ, Ω, ρ, at_, p⟩ := h
  obtain ⟨μ0, Ω0, ρ0, a0, p0⟩ := two at_ p
  refine ⟨μ0, Ω0, ρ0, a0, p0.mono ?_⟩
  rintro v H1 ⟨μ1, Ω1, ρ1, a1, p1⟩
  refine ⟨μ1, Ω1, ρ1, a1, p1.mono ?_⟩
  rintro u H2 ⟨μ2, Ω2, x, y, a2, r1, r2, p2⟩
  cases e : cmpD o (lk Ω2 x) (lk Ω2 y) with
  | none => rw [e] at p2; exact False.elim p2
  | some t =>
    rw [e] at p2
    exact ⟨μ2, Ω2, _, _, t, a2.wf, view a2.wf r1, view a2.wf r2, e, Post.here (rel := rD X.K) p2 a2.wf (by simp only [rD, Rep])⟩
theorem s_cmp {o : CmpOp} (hu : X.A.units + 64 < cLine) (ha : PE X l (TEv X.K W ft a)) (hb : PE X r (TEv X.K W ft b)) (hm : behindInMarks o r = false) : PE X (.Compare l [o] [r] pos) (TEv X.K W ft (.cmp o a b)) :=
  (pe_cmpR (cmp_ok hu o) ha hb hm).imp fun _ _ _ h => i_cmp h
theorem t_cmp {o : CmpOp} (hu : X.A.units + 64 < cLine) (ha : PE X l (TEv X.K W ft a)) (hb : PE X r (TEv X.K W ft b)) (hm : behindInMarks o r = false) : PT X (.Compare l [o] [r] pos) (TTv X.K W ft (.cmp o a b)) :=
  (pt_cmpR (cmp_ok hu o) ha hb hm).imp fun _ _ _ h => i_cmp (tt_te h)
theorem t_val {e : Expr} (ha : PE X e (TEv X.K W ft a)) (he : ∀ whole, isTrue e X.env whole = (do let v ← whole; standAt e.pos; holding [v] (truthy v))) : PT X e (TTv X.K W ft a) :=
  (pt_val ha he).imp fun _ _ _ h => tt_te h
theorem t_not (ha : PT X l (TTv X.K W ft a)) : PT X (.UnaryOp .Not l pos) (TTv X.K W ft (.not a)) := by
  refine (pt_not ha).imp fun σ H Q ⟨μ, Ω, ρ, at_, p⟩ => ?_
  refine ⟨μ, Ω, ρ, at_, ?_⟩
  have p : Post X.K rQ W σ H μ Ω (((evE ft a ρ Ω).bind fun x Ω => (asBool x Ω).bind fun b Ω => R.ok (D.bl (!b)) Ω).bind asBool) Q := p
  show Post X.K rQ W σ H μ Ω ((evE ft a ρ Ω).bind asBool) _
  cases e : evE ft a ρ Ω with
  | bad => rw [e] at p; exact p
  | ex x Ω1 => rw [e] at p; exact p
  | ok x Ω1 =>
    rw [e] at p
    cases x with
    | bl t => exact fun b H' μ' ex q => by cases q; exact p (!t) H' μ' ex rfl
    | _ => exact False.elim p
theorem non_rep {x : D} {v : V} {K : Frg} {G : Hp} {μ : Mu} {n : Nat} (h : Rep K G μ n x v) : decide (v = V.non) = isNonD x := by
  cases x with
  | non => simp only [Rep] at h; subst h; rfl
  | hd k => simp only [Rep] at h; obtain ⟨_, rfl⟩ := h; rfl
  | bl _ => simp only [Rep] at h; subst h; rfl
  | int _ => simp only [Rep] at h; subst h; rfl
  | str _ => simp only [Rep] at h; subst h; rfl
  | _ => simp only [Rep] at h; obtain ⟨_, rest⟩ := h; first | (obtain ⟨rfl, _⟩ := rest; rfl) | (obtain ⟨_, rfl, _⟩ := rest; rfl) | (obtain ⟨_, _, rfl, _⟩ := rest; rfl)
theorem i_isn {σ : St} {H : Hp} {Q : VK} (h : TEv X.K W ft (.isn a) σ H Q) : tIsN (TEv X.K W ft a) σ H Q := by
  obtain ⟨μ, Ω, ρ, at_, p⟩ := h
  obtain ⟨μ0, Ω0, ρ0, a0, p0⟩ := one at_ p
  refine ⟨μ0, Ω0, ρ0, a0, p0.mono ?_⟩
  rintro v H1 ⟨μ1, Ω1, x, a1, r1, p1⟩
  rw [non_rep r1]
  exact Post.here (rel := rD X.K) p1 a1.wf (by simp only [rD, Rep])
theorem i_notn {σ : St} {H : Hp} {Q : VK} (h : TEv X.K W ft (.notn a) σ H Q) : tNotN (TEv X.K W ft a) σ H Q := by
  obtain ⟨μ, Ω, ρ, at_, p⟩ := h
  obtain ⟨μ0, Ω0, ρ0, a0, p0⟩ := one at_ p
  refine ⟨μ0, Ω0, ρ0, a0, p0.mono ?_⟩
  rintro v H1 ⟨μ1, Ω1, x, a1, r1, p1⟩
  rw [non_rep r1]
  exact Post.here (rel := rD X.K) p1 a1.wf (by simp only [rD, Rep])
theorem s_isn {k : Nat} {pos' : Pos} (ha : PE X l (TEv X.K W ft a)) : PE X (.Compare l [.Is] [.Constant .none k pos'] pos) (TEv X.K W ft (.isn a)) := (pe_cmp (pc_isN ha)).imp fun _ _ _ h => i_isn h
theorem s_notn {k : Nat} {pos' : Pos} (ha : PE X l (TEv X.K W ft a)) : PE X (.Compare l [.IsNot] [.Constant .none k pos'] pos) (TEv X.K W ft (.notn a)) := (pe_cmp (pc_notN ha)).imp fun _ _ _ h => i_notn h
theorem t_isn {k : Nat} {pos' : Pos} (ha : PE X l (TEv X.K W ft a)) : PT X (.Compare l [.Is] [.Constant .none k pos'] pos) (TTv X.K W ft (.isn a)) := (pt_cmp (pc_isN ha)).imp fun _ _ _ h => i_isn (tt_te h)
theorem t_notn {k : Nat} {pos' : Pos} (ha : PE X l (TEv X.K W ft a)) : PT X (.Compare l [.IsNot] [.Constant .none k pos'] pos) (TTv X.K W ft (.notn a)) := (pt_cmp (pc_notN ha)).imp fun _ _ _ h => i_notn (tt_te h)
end
end Rf
end
section
namespace Rf
open PySem L2
section
variable {X : Cx} {W : WX} {ft : FT} {pos : Pos} {l r m : Expr} {a b c : E} {es rest : List Expr} {el : EL}
theorem s_and1 (ha : PE X l (TEv X.K W ft a)) : PE X (.BoolOp .And [l] pos) (TG_ X.K W (evAnd ft (.cons a .nil))) := (pe_one ha).imp fun _ _ _ h => h
theorem s_or1 (ha : PE X l (TEv X.K W ft a)) : PE X (.BoolOp .Or [l] pos) (TG_ X.K W (evOr ft (.cons a .nil))) := (pe_one ha).imp fun _ _ _ h => h
theorem s_andc (ha : PE X l (TEv X.K W ft a)) (hb : PE X (.BoolOp .And (m :: rest) pos) (TG_ X.K W (evAnd ft (.cons b el)))) : PE X (.BoolOp .And (l :: m :: rest) pos) (TG_ X.K W (evAnd ft (.cons a (.cons b el)))) := by
  refine (pe_and ha hb).imp fun σ H Q ⟨μ, Ω, ρ, at_, p⟩ => ?_
  have p : Post X.K (rD X.K) W σ H μ Ω ((evE ft a ρ Ω).bind fun x Ω => (asBool x Ω).bind fun t Ω => if t then evAnd ft (.cons b el) ρ Ω else .ok (.bl false) Ω) Q := p
  refine ⟨μ, Ω, ρ, at_, (Post.bind (rel := rD X.K) p).mono ?_⟩
  rintro v H1 ⟨μ1, Ω1, x, _, ex1, r1, p1⟩
  obtain ⟨t, rfl, p2⟩ := pbool p1
  simp only [rD, Rep] at r1
  refine ⟨t, r1, ?_⟩
  cases t with
  | true => exact iteT ⟨μ1, Ω1, ρ, at_.ext ex1, p2⟩
  | false => exact iteF (Post.here (rel := rD X.K) p2 ex1.wf (by simp only [rD, Rep]))
theorem s_orc (ha : PE X l (TEv X.K W ft a)) (hb : PE X (.BoolOp .Or (m :: rest) pos) (TG_ X.K W (evOr ft (.cons b el)))) : PE X (.BoolOp .Or (l :: m :: rest) pos) (TG_ X.K W (evOr ft (.cons a (.cons b el)))) := by
  refine (pe_or ha hb).imp fun σ H Q ⟨μ, Ω, ρ, at_, p⟩ => ?_
  have p : Post X.K (rD X.K) W σ H μ Ω ((evE ft a ρ Ω).bind fun x Ω => (asBool x Ω).bind fun t Ω => if t then .ok (.bl true) Ω else evOr ft (.cons b el) ρ Ω) Q := p
  refine ⟨μ, Ω, ρ, at_, (Post.bind (rel := rD X.K) p).mono ?_⟩
  rintro v H1 ⟨μ1, Ω1, x, _, ex1, r1, p1⟩
  obtain ⟨t, rfl, p2⟩ := pbool p1
  simp only [rD, Rep] at r1
  refine ⟨t, r1, ?_⟩
  cases t with
  | false => exact iteF ⟨μ1, Ω1, ρ, at_.ext ex1, p2⟩
  | true => exact iteT (Post.here (rel := rD X.K) p2 ex1.wf (by simp only [rD, Rep]))
theorem t_and1 (ha : PT X l (TTv X.K W ft a)) : PW X (.BoolOp .And [l] pos) (TB_ X.K W (evAnd ft (.cons a .nil))) := (pw_and1 ha).imp fun _ _ _ h => h
theorem t_or1 (ha : PT X l (TTv X.K W ft a)) : PW X (.BoolOp .Or [l] pos) (TB_ X.K W (evOr ft (.cons a .nil))) := (pw_or1 ha).imp fun _ _ _ h => h
theorem bindbind {α β γ : Type} (r : R α) (f : α → Sto → R β) (g : β → Sto → R γ) : (r.bind f).bind g = r.bind fun a Ω => (f a Ω).bind g := by cases r <;> rfl
theorem t_andc (ha : PT X l (TTv X.K W ft a)) (hb : PW X (.BoolOp .And (m :: rest) pos) (TB_ X.K W (evAnd ft (.cons b el)))) : PW X (.BoolOp .And (l :: m :: rest) pos) (TB_ X.K W (evAnd ft (.cons a (.cons b el)))) := by
  refine (pw_and ha hb).imp fun σ H Q ⟨μ, Ω, ρ, at_, p⟩ => ?_
  have p : Post X.K rQ W σ H μ Ω (((evE ft a ρ Ω).bind fun x Ω => (asBool x Ω).bind fun t Ω => if t then evAnd ft (.cons b el) ρ Ω else .ok (.bl false) Ω).bind asBool) Q := p
  rw [bindbind] at p
  have p : Post X.K rQ W σ H μ Ω ((evT ft a ρ Ω).bind fun t Ω => (if t then evAnd ft (.cons b el) ρ Ω else .ok (.bl false) Ω).bind asBool) Q := by
    unfold evT
    rw [bindbind]
    have e : (fun (x : D) Ω => ((asBool x Ω).bind fun t Ω => if t then evAnd ft (.cons b el) ρ Ω else .ok (.bl false) Ω).bind asBool) = fun x Ω => (asBool x Ω).bind fun t Ω => (if t then evAnd ft (.cons b el) ρ Ω else .ok (.bl false) Ω).bind asBool := by
      funext x Ω
      exact bindbind _ _ _
    rw [← e]
    exact p
  refine ⟨μ, Ω, ρ, at_, (Post.bind (rel := rQ) p).mono ?_⟩
  rintro t H1 ⟨μ1, Ω1, x, _, ex1, r1, p1⟩
  have r1 : x = t := r1
  subst r1
  cases x with
  | true => exact iteT ⟨μ1, Ω1, ρ, at_.ext ex1, p1⟩
  | false => exact iteF (Post.here (rel := rQ) p1 ex1.wf rfl)
theorem t_orc (ha : PT X l (TTv X.K W ft a)) (hb : PW X (.BoolOp .Or (m :: rest) pos) (TB_ X.K W (evOr ft (.cons b el)))) : PW X (.BoolOp .Or (l :: m :: rest) pos) (TB_ X.K W (evOr ft (.cons a (.cons b el)))) := by
  refine (pw_or ha hb).imp fun σ H Q ⟨μ, Ω, ρ, at_, p⟩ => ?_
  have p : Post X.K rQ W σ H μ Ω (((evE ft a ρ Ω).bind fun x Ω => (asBool x Ω).bind fun t Ω => if t then .ok (.bl true) Ω else evOr ft (.cons b el) ρ Ω).bind asBool) Q := p
  rw [bindbind] at p
  have p : Post X.K rQ W σ H μ Ω ((evT ft a ρ Ω).bind fun t Ω => (if t then .ok (.bl true) Ω else evOr ft (.cons b el) ρ Ω).bind asBool) Q := by
    unfold evT
    rw [bindbind]
    have e : (fun (x : D) Ω => ((asBool x Ω).bind fun t Ω => if t then .ok (.bl true) Ω else evOr ft (.cons b el) ρ Ω).bind asBool) = fun x Ω => (asBool x Ω).bind fun t Ω => (if t then .ok (.bl true) Ω else evOr ft (.cons b el) ρ Ω).bind asBool := by
      funext x Ω
      exact bindbind _ _ _
    rw [← e]
    exact p
  refine ⟨μ, Ω, ρ, at_, (Post.bind (rel := rQ) p).mono ?_⟩
  rintro t H1 ⟨μ1, Ω1, x, _, ex1, r1, p1⟩
  have r1 : x = t := r1
  subst r1
  cases x with
  | false => exact iteF ⟨μ1, Ω1, ρ, at_.ext ex1, p1⟩
  | true => exact iteT (Post.here (rel := rQ) p1 ex1.wf rfl)
theorem s_ite {lc la lb : Expr} (hc : PT X lc (TTv X.K W ft c)) (ha : PE X la (TEv X.K W ft a)) (hb : PE X lb (TEv X.K W ft b)) : PE X (.IfExp lc la lb pos) (TEv X.K W ft (.ite c a b)) := by
  refine (pe_ifExp hc ha hb).imp fun σ H Q ⟨μ, Ω, ρ, at_, p⟩ => ?_
  have p : Post X.K (rD X.K) W σ H μ Ω ((evE ft c ρ Ω).bind fun x Ω => (asBool x Ω).bind fun t Ω => if t then evE ft a ρ Ω else evE ft b ρ Ω) Q := p
  rw [← bindbind] at p
  refine ⟨μ, Ω, ρ, at_, (Post.bind (rel := rQ) p).mono ?_⟩
  rintro t H1 ⟨μ1, Ω1, x, _, ex1, r1, p1⟩
  have r1 : x = t := r1
  subst r1
  cases x with
  | true => exact iteT ⟨μ1, Ω1, ρ, at_.ext ex1, p1⟩
  | false => exact iteF ⟨μ1, Ω1, ρ, at_.ext ex1, p1⟩
theorem s_nil : PA X [] (TAv X.K W ft .nil) := pa_nil.imp fun σ H Q ⟨μ, Ω, ρ, at_, p⟩ => Post.here (rel := rL X.K) p at_.wf Reps.nil
theorem s_cons (ha : PE X l (TEv X.K W ft a)) (hr : PA X es (TAv X.K W ft el)) (hs : starEach (l :: es) X.env = (false, eval l X.env) :: starEach es X.env) : PA X (l :: es) (TAv X.K W ft (.cons a el)) := by
  refine (pa_cons ha hr hs).imp fun σ H Q ⟨μ, Ω, ρ, at_, p⟩ => ?_
  refine ⟨μ, Ω, ρ, at_, (Post.bind (rel := rD X.K) (show Post X.K (rL X.K) W σ H μ Ω ((evE ft a ρ Ω).bind fun d Ω => (evL ft el ρ Ω).bind fun ds Ω => .ok (d :: ds) Ω) Q from p)).mono ?_⟩
  rintro v H1 ⟨μ1, Ω1, x, _, ex1, r1, p1⟩
  refine ⟨μ1, Ω1, ρ, at_.ext ex1, (Post.bind (rel := rL X.K) p1).mono ?_⟩
  rintro vs H2 ⟨μ2, Ω2, ds, _, ex2, r2, p2⟩
  exact Post.here (rel := rL X.K) p2 ex2.wf (Reps.cons (Rep.tr ex2.tr _ _ r1) r2)
theorem s_tup {x1 : Nat} (h : PA X es (TAv X.K W ft el)) : PE X (.Tuple es x1 pos) (TEv X.K W ft (.tup el)) := by
  refine (pe_tup h).imp fun σ H Q ⟨μ, Ω, ρ, at_, p⟩ => ?_
  obtain ⟨μ0, Ω0, ρ0, a0, p0⟩ := many at_ p
  refine ⟨μ0, Ω0, ρ0, a0, p0.mono ?_⟩
  rintro vs H1 ⟨μ1, Ω1, ds, a1, r1, p1⟩
  by_cases hz : ds.length ≤ big
  · rw [if_pos hz] at p1
    have hz' : vs.length ≤ sizeLine := by rw [r1.length, ← big_eq]; exact hz
    refine ⟨hz', fun q hq => ?_⟩
    obtain ⟨e, rp⟩ := res_tup a1.wf r1 hz' hq
    exact p1 _ _ _ e rp
  · rw [if_neg hz] at p1
    exact False.elim p1
theorem s_lst (h : PA X es (TAv X.K W ft el)) : PE X (.List es pos) (TEv X.K W ft (.lst el)) := by
  refine (pe_lst h).imp fun σ H Q ⟨μ, Ω, ρ, at_, p⟩ => ?_
  obtain ⟨μ0, Ω0, ρ0, a0, p0⟩ := many at_ p
  refine ⟨μ0, Ω0, ρ0, a0, p0.mono ?_⟩
  rintro vs H1 ⟨μ1, Ω1, ds, a1, r1, p1⟩
  by_cases hz : ds.length ≤ big
  · rw [if_pos hz] at p1
    have hz' : vs.length ≤ sizeLine := by rw [r1.length, ← big_eq]; exact hz
    refine ⟨hz', fun q hq => ?_⟩
    obtain ⟨e, rp⟩ := res_lst a1.wf r1 hz' hq
    exact p1 _ _ _ e rp
  · rw [if_neg hz] at p1
    exact False.elim p1
theorem push_want {K : Frg} {σ : St} {H : Hp} {μ : Mu} {Ω : Sto} {ρ : Env} {ob : Ob} {ho : HO} {Q : VK} (at_ : At K σ H μ Ω ρ) (hr : ORep K (Fz H μ Ω) μ Ω.length ob ho) (p : Post K (rD K) W σ H μ Ω (.ok (.hd Ω.length) (Ω ++ [ob])) Q) :
    ∀ q, H q = none → Q (.ref q) (upd H q ho) := fun q hq => by
  refine p _ _ _ (Ext.push at_.wf hq hr) ?_
  simp only [rD, Rep]
  exact ⟨by rw [List.length_append, List.length_singleton]; omega, by rw [pushM_eq]⟩
theorem s_newl (h : PA X es (TAv X.K W ft el)) : PE X (.List es pos) (TEv X.K W ft (.newl el)) := by
  refine (pe_lst h).imp fun σ H Q ⟨μ, Ω, ρ, at_, p⟩ => ?_
  obtain ⟨μ0, Ω0, ρ0, a0, p0⟩ := many at_ p
  refine ⟨μ0, Ω0, ρ0, a0, p0.mono ?_⟩
  rintro vs H1 ⟨μ1, Ω1, ds, a1, r1, p1⟩
  by_cases hz : ds.length ≤ big
  · rw [if_pos hz] at p1
    have hz' : vs.length ≤ sizeLine := by rw [r1.length, ← big_eq]; exact hz
    exact ⟨hz', push_want (ob := .lst ds) a1 ⟨vs, rfl, r1, hz'⟩ p1⟩
  · rw [if_neg hz] at p1
    exact False.elim p1
theorem s_newk : PE X (.Dict [] [] pos) (TEv X.K W ft .newk) := pe_dnewK.imp fun σ H Q ⟨μ, Ω, ρ, at_, p⟩ => push_want (ob := .dk []) at_ ⟨[], rfl, by simp only [RepK]⟩ p
theorem s_frz (ha : PE X l (TEv X.K W ft a)) : PE X l (TEv X.K W ft (.frz a)) := by
  refine (PE.or ha (PE.lock ha)).imp fun σ H Q ⟨μ, Ω, ρ, at_, p⟩ => ?_
  have p : Post X.K (rD X.K) W σ H μ Ω ((evE ft a ρ Ω).bind fun x Ω => match x with
    | .hd k => match (Ω[k]? : Option Ob) with
      | some (.lst xs) => .ok (.lst xs) (Ω.set k .dead)
      | some (.dk kvs) => .ok (.dk kvs) (Ω.set k .dead)
      | some (.dt kvs) => .ok (.dt kvs) (Ω.set k .dead)
      | _ => .bad
    | _ => .bad) Q := p
  cases e : evE ft a ρ Ω with
  | bad => rw [e] at p; exact False.elim p
  | ex x Ω1 => rw [e] at p; exact .inl ⟨μ, Ω, ρ, at_, by rw [e]; exact p⟩
  | ok x Ω1 =>
    rw [e] at p
    cases x with
    | hd k =>
      cases e1 : Ω1[k]? with
      | none => simp only [R.bind, e1] at p; exact False.elim p
      | some o =>
        have al : ∀ {o : Ob}, Ω1[k]? = some o → o ≠ .dead → Alive Ω1 k := fun h1 h2 => ⟨_, h1, h2⟩
        cases o with
        | lst xs =>
          simp only [R.bind, e1] at p
          refine .inl ⟨μ, Ω, ρ, at_, ?_⟩
          rw [e]
          intro v H1 μ1 ex1 r1
          simp only [rD, Rep] at r1
          obtain ⟨_, rfl⟩ := r1
          obtain ⟨ho, h1, vs, rfl, rr, z⟩ := ex1.wf.ob k _ e1 (by intro z; cases z)
          have ha := al e1 (by intro z; cases z)
          have ex2 := Ext.freeze ex1.wf ha
          refine p _ _ _ (ex1.trans ex2) ?_
          simp only [rD, Rep]
          exact ⟨μ1 k, vs, rfl, Reps.tr ex2.tr _ _ rr, z, Fz.freeze ex1.wf ha h1⟩
        | dk xs =>
          simp only [R.bind, e1] at p
          refine .inr ⟨μ, Ω, ρ, at_, ?_⟩
          rw [e]
          intro v H1 μ1 ex1 r1
          simp only [rD, Rep] at r1
          obtain ⟨_, rfl⟩ := r1
          obtain ⟨ho, h1, vs, rfl, rr⟩ := ex1.wf.ob k _ e1 (by intro z; cases z)
          have ha := al e1 (by intro z; cases z)
          refine ⟨μ1 k, _, rfl, h1, trivial, fun od => ?_⟩
          have ex2 := Ext.retire ex1.wf ha (.frz od (.dK vs))
          refine p _ _ _ (ex1.trans ex2) ?_
          simp only [rD, Rep]
          exact ⟨μ1 k, vs, od, rfl, RepK.tr ex2.tr _ _ rr, Fz.retire ex1.wf ha _⟩
        | dt xs =>
          simp only [R.bind, e1] at p
          refine .inr ⟨μ, Ω, ρ, at_, ?_⟩
          rw [e]
          intro v H1 μ1 ex1 r1
          simp only [rD, Rep] at r1
          obtain ⟨_, rfl⟩ := r1
          obtain ⟨ho, h1, vs, rfl, rr⟩ := ex1.wf.ob k _ e1 (by intro z; cases z)
          have ha := al e1 (by intro z; cases z)
          refine ⟨μ1 k, _, rfl, h1, trivial, fun od => ?_⟩
          have ex2 := Ext.retire ex1.wf ha (.frz od (.dT vs))
          refine p _ _ _ (ex1.trans ex2) ?_
          simp only [rD, Rep]
          exact ⟨μ1 k, vs, od, rfl, RepT.tr ex2.tr _ _ rr, Fz.retire ex1.wf ha _⟩
        | _ => simp only [R.bind, e1] at p; exact False.elim p
    | _ => exact False.elim p
theorem idx_seq {x y : D} {xs : List D} {d : D} (e : idxD x y = some d) (hs : seqD x = some xs) : ∃ i, y = .int i ∧ atI xs i = some d := by
  cases x with
  | lst ys => cases hs; cases y <;> first | (exact ⟨_, rfl, e⟩) | cases e
  | tup ys => cases hs; cases y <;> first | (exact ⟨_, rfl, e⟩) | cases e
  | e0 => cases hs; cases y <;> first | (exact ⟨_, rfl, e⟩) | cases e
  | scr ys => cases hs; cases y <;> first | (exact ⟨_, rfl, e⟩) | cases e
  | _ => cases hs
theorem atI_rep {K : Frg} {G : Hp} {μ : Mu} {n : Nat} {xs : List D} {vs : List V} {i : Int} {d : D} (h : Reps K G μ n xs vs) (e : atI xs i = some d) : ∃ v, atI vs i = some v ∧ Rep K G μ n d v := by
  unfold atI at e ⊢
  rw [h.length]
  cases e1 : ixN xs.length i with
  | none => rw [e1] at e; cases e
  | some j =>
    rw [e1] at e
    exact h.get e
theorem view_int {K : Frg} {H : Hp} {μ : Mu} {Ω : Sto} {i : Int} {v : V} (h : Rep K (Fz H μ Ω) μ Ω.length (.int i) v) : v = .int i := by simpa only [Rep] using h
theorem ix_dict (hu : X.A.units + 1 < cLine) : IxR X (fun x y H Q => ∃ p v, x = .ref p ∧ DGet H p y (some v) ∧ Q v H) := by
  intro value slice pins s σ H x y v u Q I rx ry h hs
  obtain ⟨p, z, rfl, g, q⟩ := h
  cases rx
  exact PyProof.Rows.tail_any (dict_typeIs I g) PySem.F.slot_dict_getitem.lookup (d_getItem hu I g ry fun w' s3 I3 rw' => ⟨z, H, I3, rw', q⟩) hs
theorem i_idx {K : Frg} {H : Hp} {μ : Mu} {Ω : Sto} {x y : D} {d : D} {v u : V} {Q : VK} (w : Wf K H μ Ω) (vx : View K H μ Ω x v) (ry : Rep K (Fz H μ Ω) μ Ω.length y u) (e : idxD x y = some d) (k : Want K H μ Ω d Q) :
    rIx K v u H Q ∨ ∃ p z, v = .ref p ∧ DGet H p u (some z) ∧ Q z H := by
  have vy := view0 ry
  have seq : ∀ xs, seqD x = some xs → rIx K v u H Q := fun xs hs => by
    obtain ⟨i, rfl, e2⟩ := idx_seq e hs
    obtain ⟨p, vs, rfl, r, z, c⟩ := view_seq vx hs
    obtain ⟨t, e3, rt⟩ := atI_rep r e2
    have hu := view_int ry
    rcases c with c | c
    · exact .inl ⟨p, vs, i, t, rfl, hu, c, e3, k.now w rt⟩
    · exact .inr (.inl ⟨p, vs, i, t, rfl, hu, c, e3, k.now w rt⟩)
  cases x with
  | lst xs => exact .inl (seq xs rfl)
  | tup xs => exact .inl (seq xs rfl)
  | e0 => exact .inl (seq [] rfl)
  | scr xs => exact .inl (seq _ rfl)
  | str t =>
    cases y with
    | int i =>
      by_cases hz : t.length ≤ big
      · have e : (if t.length ≤ big then (atI t.cps.toList i).map fun c => D.str ⟨#[c]⟩ else none) = some d := e
        rw [if_pos hz] at e
        obtain ⟨c, e1, rfl⟩ := Option.map_eq_some_iff.mp e
        simp only [View] at vx
        exact .inl (.inr (.inr ⟨t, i, c, vx, view_int ry, big_eq ▸ hz, e1, k.str w⟩))
      · have e : (if t.length ≤ big then (atI t.cps.toList i).map fun c => D.str ⟨#[c]⟩ else none) = some d := e
        rw [if_neg hz] at e
        cases e
    | _ => cases e
  | dk kvs =>
    have e : (match keyD y with | some k => getK kvs k | none => none) = some d := e
    cases ek : keyD y with
    | none => rw [ek] at e; cases e
    | some q =>
      rw [ek] at e
      obtain ⟨p, ws, rfl, r, g⟩ := dget_k vy vx ek
      obtain ⟨t, e1, rt⟩ := (getK_rep (k := q) r).1 d e
      rw [e1] at g
      exact .inr ⟨p, t, rfl, g, k.now w rt⟩
  | dt kvs =>
    have e : (match tkeyD y with | some k => getK kvs k | none => none) = some d := e
    cases ek : tkeyD y with
    | none => rw [ek] at e; cases e
    | some q =>
      rw [ek] at e
      obtain ⟨p, ws, rfl, r, g⟩ := dget_t vy vx ek
      obtain ⟨t, e1, rt⟩ := (getT_rep (k := q) r).1 d e
      rw [e1] at g
      exact .inr ⟨p, t, rfl, g, k.now w rt⟩
  | _ => cases y <;> cases e
theorem s_idx (hu : X.A.units + 1 < cLine) (ha : PE X l (TEv X.K W ft a)) (hb : PE X r (TEv X.K W ft b)) (hs : PlainIx r) : PE X (.Subscript l r pos) (TEv X.K W ft (.idx a b)) := by
  refine (pe_ix (ix_seq.or (ix_dict hu)) ha hb hs).imp fun σ H Q ⟨μ, Ω, ρ, at_, p⟩ => ?_
  obtain ⟨μ0, Ω0, ρ0, a0, p0⟩ := two at_ p
  refine ⟨μ0, Ω0, ρ0, a0, p0.mono ?_⟩
  rintro v H1 ⟨μ1, Ω1, ρ1, a1, p1⟩
  refine ⟨μ1, Ω1, ρ1, a1, p1.mono ?_⟩
  rintro u H2 ⟨μ2, Ω2, x, y, a2, r1, r2, p2⟩
  obtain ⟨d, e, k⟩ := p2.optD
  exact i_idx a2.wf (view a2.wf r1) r2 e k
theorem s_onone : PO X none (TOv X.K W ft .none) := ⟨fun pins s σ H Q I ⟨μ, Ω, ρ, at_, p⟩ => po_none.run pins s σ H Q I (Post.here (rel := rQ) p at_.wf rfl)⟩
theorem s_osome (ha : PE X l (TEv X.K W ft a)) : PO X (some l) (TOv X.K W ft (.some a)) := by
  refine ⟨fun pins s σ H Q I ⟨μ, Ω, ρ, at_, p⟩ => (po_some ha).run pins s σ H Q I ?_⟩
  refine ⟨μ, Ω, ρ, at_, (Post.bind (rel := rD X.K) (show Post X.K rQ W σ H μ Ω ((evE ft a ρ Ω).bind fun d Ω => match d with | .int i => .ok (some i) Ω | _ => .bad) Q from p)).mono ?_⟩
  rintro v H1 ⟨μ1, Ω1, x, _, ex1, r1, p1⟩
  cases x with
  | int i => exact ⟨i, view_int r1, Post.here (rel := rQ) p1 ex1.wf rfl⟩
  | _ => exact False.elim p1
theorem Reps.cut {K : Frg} {G : Hp} {μ : Mu} {n : Nat} {xs : List D} {vs : List V} (h : Reps K G μ n xs vs) (lo hi : Option Int) : Reps K G μ n (cutD xs lo hi) (cutV vs lo hi) := by
  unfold cutD cutV
  rw [h.length]
  exact (h.drop _).take _
theorem lookup_rep {K : Frg} {G : Hp} {μ : Mu} {n : Nat} {f : Str} : ∀ {fs : List (Str × D)} {ws : List (Str × V)} {d : D}, RepS K G μ n fs ws → fs.lookup f = some d → ∃ v, ws.lookup f = some v ∧ Rep K G μ n d v
  | [], ws, d, h, e => by cases e
  | (g, x) :: r, ws, d, h, e => by
    simp only [RepS] at h
    obtain ⟨v, w', rfl, rv, rr⟩ := h
    have e : (match f == g with | true => some x | false => r.lookup f) = some d := e
    show ∃ u, (match f == g with | true => some v | false => w'.lookup f) = some u ∧ Rep K G μ n d u
    cases q : (f == g) with
    | true =>
      rw [q] at e
      cases e
      exact ⟨v, rfl, rv⟩
    | false =>
      rw [q] at e
      exact lookup_rep rr e
theorem lookup_none {K : Frg} {G : Hp} {μ : Mu} {n : Nat} {f : Str} : ∀ {fs : List (Str × D)} {ws : List (Str × V)}, RepS K G μ n fs ws → fs.lookup f = none → ws.lookup f = none
  | [], ws, h, e => by simp only [RepS] at h; rw [h]; rfl
  | (g, x) :: r, ws, h, e => by
    simp only [RepS] at h
    obtain ⟨v, w', rfl, rv, rr⟩ := h
    have e : (match f == g with | true => some x | false => r.lookup f) = none := e
    show (match f == g with | true => some v | false => w'.lookup f) = none
    cases q : (f == g) with
    | true => rw [q] at e; cases e
    | false =>
      rw [q] at e
      exact lookup_none rr e
theorem s_fld {f : Str} (ha : PE X l (TEv X.K W ft a)) (hb : attributeBase l f X.env (eval l X.env) = eval l X.env) (hc : ∀ c, (ft.flds c).contains f = true → Cls X.K (He.ga X.K c) ∧ NoAttr X.K (He.ga X.K c) f) :
    PE X (.Attribute l f pos) (TEv X.K W ft (.fld a f)) := by
  refine (pe_fld ha hb).imp fun σ H Q ⟨μ, Ω, ρ, at_, p⟩ => ?_
  obtain ⟨μ0, Ω0, ρ0, a0, p0⟩ := one at_ p
  refine ⟨μ0, Ω0, ρ0, a0, p0.mono ?_⟩
  rintro v H1 ⟨μ1, Ω1, x, a1, r1, p1⟩
  obtain ⟨d, e, k⟩ := p1.optD
  have vx := view a1.wf r1
  generalize lk Ω1 x = x' at vx e
  cases x' with
  | ins c fs =>
    obtain ⟨q, dx, ws, rfl, rr, hq⟩ := vx
    have e : (if (ft.flds c).contains f = true then fs.lookup f else none) = some d := e
    by_cases hf : (ft.flds c).contains f = true
    · rw [if_pos hf] at e
      obtain ⟨cl, na⟩ := hc c hf
      obtain ⟨u, e1, ru⟩ := lookup_rep rr e
      exact ⟨q, _, dx, ws, u, rfl, hq, cl, na, e1, k.now a1.wf ru⟩
    · rw [if_neg hf] at e
      cases e
  | _ => cases e
end
end Rf
end
section
namespace Rf
open PySem L2
theorem _root_.L2.PS.lockS {X : Cx} {st : Stmt} {t : TS} (h : PS X st t) : PS X st (fun D σ H => ∃ p u, H p = some u ∧ Mut (some u) ∧ ∀ od, t D σ (upd H p (.frz od u))) :=
  ⟨fun pins s σ H D I ⟨p, u, hd, mu, hw⟩ => let ⟨od, I1⟩ := I.lock hd mu; h.run pins s σ _ D I1 (hw od)⟩
theorem set_same {α : Type} {xs : List α} {i : Nat} {x : α} (h : xs[i]? = some x) : xs.set i x = xs := by
  refine List.ext_getElem? fun j => ?_
  by_cases e : j = i
  · subst e
    rw [List.getElem?_set_self (List.getElem?_eq_some_iff.mp h).1, h]
  · rw [List.getElem?_set_ne (Ne.symm e)]
section
variable {X : Cx} {W : WX} {ft : FT} {st : Stmt} {i : Nat} {s : S}
theorem s_fz (h : PS X st (TSv X.K W ft s)) : PS X st (TSv X.K W ft (.fz i s)) := by
  refine (PS.or h (PS.lockS h)).imp fun D σ H ⟨μ, Ω, ρ, at_, p⟩ => ?_
  have p : PostS X.K W H μ Ω (match ρ[i]? with
    | some (some (.hd k)) => match (Ω[k]? : Option Ob) with
      | some (.lst xs) => exS ft s (ρ.set i (some (.lst xs))) (Ω.set k .dead)
      | some (.dk kvs) => exS ft s (ρ.set i (some (.dk kvs))) (Ω.set k .dead)
      | some (.dt kvs) => exS ft s (ρ.set i (some (.dt kvs))) (Ω.set k .dead)
      | _ => .bad
    | _ => .bad) D := p
  cases e0 : ρ[i]? with
  | none => rw [e0] at p; exact False.elim p
  | some od =>
    cases od with
    | none => rw [e0] at p; exact False.elim p
    | some d =>
      cases d with
      | hd k =>
        rw [e0] at p
        obtain ⟨v, e2, rv⟩ := at_.env.2 i _ e0
        simp only [Rep] at rv
        obtain ⟨_, rfl⟩ := rv
        cases e1 : Ω[k]? with
        | none => simp only [e1] at p; exact False.elim p
        | some o =>
          have al : ∀ {o : Ob}, Ω[k]? = some o → o ≠ .dead → Alive Ω k := fun h1 h2 => ⟨_, h1, h2⟩
          cases o with
          | lst xs =>
            simp only [e1] at p
            obtain ⟨ho, h1, vs, rfl, rr, z⟩ := at_.wf.ob k _ e1 (by intro z; cases z)
            have ha := al e1 (by intro z; cases z)
            have ex2 := Ext.freeze at_.wf ha
            refine .inl ⟨μ, Ω.set k .dead, ρ.set i (some (.lst xs)), ⟨ex2.wf, ?_⟩, PostS.ext ex2 p⟩
            have r := (at_.env.tr ex2.tr).set i (d := .lst xs) (v := .ref (μ k)) (by
              simp only [Rep]
              exact ⟨μ k, vs, rfl, Reps.tr ex2.tr _ _ rr, z, Fz.freeze at_.wf ha h1⟩)
            rw [set_same e2] at r
            exact r
          | dk xs =>
            simp only [e1] at p
            obtain ⟨ho, h1, vs, rfl, rr⟩ := at_.wf.ob k _ e1 (by intro z; cases z)
            have ha := al e1 (by intro z; cases z)
            refine .inr ⟨μ k, _, h1, trivial, fun od => ?_⟩
            have ex2 := Ext.retire at_.wf ha (.frz od (.dK vs))
            refine ⟨μ, Ω.set k .dead, ρ.set i (some (.dk xs)), ⟨ex2.wf, ?_⟩, PostS.ext ex2 p⟩
            have r := (at_.env.tr ex2.tr).set i (d := .dk xs) (v := .ref (μ k)) (by
              simp only [Rep]
              exact ⟨μ k, vs, od, rfl, RepK.tr ex2.tr _ _ rr, Fz.retire at_.wf ha _⟩)
            rw [set_same e2] at r
            exact r
          | dt xs =>
            simp only [e1] at p
            obtain ⟨ho, h1, vs, rfl, rr⟩ := at_.wf.ob k _ e1 (by intro z; cases z)
            have ha := al e1 (by intro z; cases z)
            refine .inr ⟨μ k, _, h1, trivial, fun od => ?_⟩
            have ex2 := Ext.retire at_.wf ha (.frz od (.dT vs))
            refine ⟨μ, Ω.set k .dead, ρ.set i (some (.dt xs)), ⟨ex2.wf, ?_⟩, PostS.ext ex2 p⟩
            have r := (at_.env.tr ex2.tr).set i (d := .dt xs) (v := .ref (μ k)) (by
              simp only [Rep]
              exact ⟨μ k, vs, od, rfl, RepT.tr ex2.tr _ _ rr, Fz.retire at_.wf ha _⟩)
            rw [set_same e2] at r
            exact r
          | _ => simp only [e1] at p; exact False.elim p
      | _ => rw [e0] at p; exact False.elim p
end
end Rf
end
section
namespace Rf
open PySem L2
section
variable {X : Cx} {W : WX} {ft : FT} {pos p : Pos} {l r m : Expr} {a b c : E} {es rest : List Expr} {el : EL}
theorem i_bi {f : Bi} {σ : St} {H : Hp} {Q : VK} (h : TEv X.K W ft (.bi f el) σ H Q) : tCB (rb X.K (biD f)) (TAv X.K W ft el) σ H Q := by
  obtain ⟨μ, Ω, ρ, at_, p⟩ := h
  obtain ⟨μ0, Ω0, ρ0, a0, p0⟩ := many at_ p
  refine ⟨μ0, Ω0, ρ0, a0, p0.mono ?_⟩
  rintro vs H1 ⟨μ1, Ω1, ds, a1, r1, p1⟩
  obtain ⟨d, e, k⟩ := p1.optD
  exact ⟨μ1, Ω1, _, d, a1.wf, views a1.wf r1, e, k⟩
theorem s_bi (f : Bi) (hf : f.ok = true) (hc : X.calm = true) (hu : X.A.units + 64 < cLine) (hg : Gl X f.name) (hm : X.mg f.name = none) (ha : PA X (l :: es) (TAv X.K W ft el)) (he : starEach (l :: es) X.env = (false, eval l X.env) :: starEach es X.env) (hpl : (backTo pos (starEach es X.env)).any (·.1) = false) :
    PE X (.Call (.Name f.name p) (l :: es) [] pos) (TEv X.K W ft (.bi f el)) := by
  cases f with
  | len => exact (pe_callB len_ok hg hm (by decide +kernel) ha (by decide +kernel) (by decide +kernel) he hpl).imp fun _ _ _ h => i_bi h
  | abs => exact (pe_callB abs_ok hg hm (by decide +kernel) ha (by decide +kernel) (by decide +kernel) he hpl).imp fun _ _ _ h => i_bi h
  | all => exact (pe_callB (all_ok hc) hg hm (by decide +kernel) ha (by decide +kernel) (by decide +kernel) he hpl).imp fun _ _ _ h => i_bi h
  | any => exact (pe_callB (any_ok hc) hg hm (by decide +kernel) ha (by decide +kernel) (by decide +kernel) he hpl).imp fun _ _ _ h => i_bi h
  | int => exact (pe_callTy int_ok hg hm (by decide +kernel) ha (by decide +kernel) (by decide +kernel) he hpl).imp fun _ _ _ h => i_bi h
  | str => exact (pe_callTy str_ok hg hm (by decide +kernel) ha (by decide +kernel) (by decide +kernel) he hpl).imp fun _ _ _ h => i_bi h
  | list => exact (pe_callTy (list_ok hc) hg hm (by decide +kernel) ha (by decide +kernel) (by decide +kernel) he hpl).imp fun _ _ _ h => i_bi h
  | tuple => exact (pe_callTy tuple_ok hg hm (by decide +kernel) ha (by decide +kernel) (by decide +kernel) he hpl).imp fun _ _ _ h => i_bi h
  | dict => exact (pe_callTy (dict_ok hc hu) hg hm (by decide +kernel) ha (by decide +kernel) (by decide +kernel) he hpl).imp fun _ _ _ h => i_bi h
  | sum => exact (pe_callB (sum_ok hc) hg hm (by decide +kernel) ha (by decide +kernel) (by decide +kernel) he hpl).imp fun _ _ _ h => i_bi h
  | sorted => cases hf
  | mn => cases hf
theorem Post.asE {K : Frg} {σ : St} {H : Hp} {μ : Mu} {Ω : Sto} {r : R D} {Q : VK} (p : Post K (rD K) W σ H μ Ω r Q) : Post K (rD K) (fun c d _ H' => WE W σ c d H') [] H μ Ω r Q := by
  cases r with
  | ok a Ω' => exact p
  | ex x Ω' => exact p
  | bad => exact p
theorem sp_of {K : Frg} {σ : St} {H : Hp} {μ : Mu} {Ω : Sto} {ds df : List D} {vs dvs : List V} {g : List D → Sto → R D} {Q : VK} (w : Wf K H μ Ω) (r : Reps K (Fz H μ Ω) μ Ω.length ds vs) (rd : ∀ G μ n, Reps K G μ n df dvs)
    (p : Post K (rD K) W σ H μ Ω (g (ds ++ df) Ω) Q) : spD K g (vs ++ dvs) H Q (WE W σ) := ⟨μ, Ω, ds ++ df, w, r.append (rd _ _ _), p.asE⟩
theorem s_call {f : Str} {j : Nat} {ad : Addr} {g : List D → Sto → R D} (tk : Takes X W) (hf : ft.fn f = some g) (F : FnK X (ft.dfl f) ad g) (hj : j ≤ (ft.dfl f).length) (hg : Gl X f) (hm : X.mg f = some (.ref ad)) (hdb : (f == ("__debug__" : Str)) = false)
    (ha : PA X (l :: es) (TAv X.K W ft el)) (he : starEach (l :: es) X.env = (false, eval l X.env) :: starEach es X.env) (hpl : (backTo pos (starEach es X.env)).any (·.1) = false) :
    PE X (.Call (.Name f p) (l :: es) [] pos) (TEv X.K W ft (.call f el j)) := by
  obtain ⟨k, fd, ps, F0, hr, hd⟩ := F.ex
  obtain ⟨dvs, dd, rd, vd, bd⟩ := hd j hj
  refine (pe_callSD F0 (hr.mono (Nat.le_succ _)) hg hm F.kp bd vd (fun σ => passAt tk σ) ha hdb he hpl).imp fun σ H Q ⟨μ, Ω, ρ, at_, p⟩ => ?_
  have p : Post X.K (rD X.K) W σ H μ Ω ((evL ft el ρ Ω).bind fun ds Ω => match ft.fn f with | some g => g (ds ++ (ft.dfl f).drop j) Ω | none => .bad) Q := p
  rw [hf] at p
  obtain ⟨μ0, Ω0, ρ0, a0, p0⟩ := many at_ p
  refine ⟨μ0, Ω0, ρ0, a0, p0.mono ?_⟩
  rintro vs H1 ⟨μ1, Ω1, ds, a1, r1, p1⟩
  exact sp_of a1.wf r1 rd p1
theorem pe_callS0 {CX : CXT} {k : Nat} {f : Addr} {fd : FuncData} {ps : List Str} {sp : Sp} {dvs : List V} {ds : List Value} {E : St → XK} {x : Str} (F : FnOk X.prog X.w X.K X.mg X.base CX k f fd ps sp) (hr : Room k X.A) (hg : Gl X x) (hm : X.mg x = some (.ref f)) (hk : PySem.W.keepIn X.K (.ref f) = true)
    (hb : Binds X.K fd ps ds) (hd : Vals dvs ds) (hx : ∀ σ, PassesAt CX X σ (E σ)) (hdb : (x == ("__debug__" : Str)) = false) : PE X (.Call (.Name x p) [] [] pos) (tCallSD sp dvs E tNil) :=
  ⟨fun pins s σ H Q I h => wpAny_Call_Name_kw (ld_glob I hg hm (PySem.W.callWith_K0 I.kIn hk (run_fnSD (us := []) F hr hb hd (hx σ) I .nil h)) hdb)⟩
theorem s_call0 {f : Str} {j : Nat} {ad : Addr} {g : List D → Sto → R D} (tk : Takes X W) (hf : ft.fn f = some g) (F : FnK X (ft.dfl f) ad g) (hj : j ≤ (ft.dfl f).length) (hg : Gl X f) (hm : X.mg f = some (.ref ad)) (hdb : (f == ("__debug__" : Str)) = false) :
    PE X (.Call (.Name f p) [] [] pos) (TEv X.K W ft (.call f .nil j)) := by
  obtain ⟨k, fd, ps, F0, hr, hd⟩ := F.ex
  obtain ⟨dvs, dd, rd, vd, bd⟩ := hd j hj
  refine (pe_callS0 F0 (hr.mono (Nat.le_succ _)) hg hm F.kp bd vd (fun σ => passAt tk σ) hdb).imp fun σ H Q ⟨μ, Ω, ρ, at_, p⟩ => ?_
  have p : Post X.K (rD X.K) W σ H μ Ω ((evL ft .nil ρ Ω).bind fun ds Ω => match ft.fn f with | some g => g (ds ++ (ft.dfl f).drop j) Ω | none => .bad) Q := p
  rw [hf] at p
  exact sp_of (ds := []) at_.wf Reps.nil rd p
theorem pe_methE {CX : CXT} {k : Nat} {f C : Addr} {fd : FuncData} {ps : List Str} {sp : Sp} {dvs : List V} {ds : List Value} {E : St → XK} {o e : Expr} {mm : Str} {ta : TE} {t : TA} {apos : Pos} (ho : PE X o ta) (c : Cls X.K C) (hm : Meth X.K C mm f)
    (F : FnOk X.prog X.w X.K X.mg X.base CX k f fd ps sp) (hr : Room k X.A) (hb : Binds X.K fd ps ds) (hd : Vals dvs ds) (hx : ∀ σ, PassesAt CX X σ (E σ)) (ha : PA X (e :: es) t)
    (hst : starEach (e :: es) X.env = (false, eval e X.env) :: starEach es X.env) (hpl : (backTo pos (starEach es X.env)).any (·.1) = false) {pl : Sem Bool}
    (ht : eval (.Call (.Attribute o mm apos) (e :: es) [] pos) X.env = (do
      let ov ← eval o X.env
      standAt apos.atName
      let q ← holding [ov] (getMethod ov mm pl)
      callWith pos q.1 q.2 (backTo pos (starEach (e :: es) X.env)) (backToKw pos (keywordEach [] X.env)))) :
    PE X (.Call (.Attribute o mm apos) (e :: es) [] pos) (tMethS C mm sp dvs E ta t) := by
  refine ⟨fun pins s σ H Q I h => PySem.W.methodCall_KW (pl := pl) (thn (ho.run pins s σ H _ I h) fun u s1 ⟨x, H1, I1, rx, q, dx, fs, ex, eq, l, k1⟩ => ?_) ht⟩
  subst ex
  obtain rfl : u = Value.ref q := rx
  refine getmeth_ok I1 eq c hm l (PySem.W.callWith_K (first := [.ref q]) (h₀ := X.base) I.ok.mod.kin hm.kp (thn (ha.run pos pins s1 σ H1 _ I1 k1) fun us s2 ⟨vs, H2, I2, rr, k2⟩ => ⟨I2.kIn, ?_⟩) hst hpl)
  exact run_fnSD (us := .ref q :: us) (vs := .ref q :: vs) F hr hb hd (hx σ) I2 (.cons rfl rr) k2
theorem pe_methE0 {CX : CXT} {k : Nat} {f C : Addr} {fd : FuncData} {ps : List Str} {sp : Sp} {dvs : List V} {ds : List Value} {E : St → XK} {o : Expr} {mm : Str} {ta : TE} {apos : Pos} (ho : PE X o ta) (c : Cls X.K C) (hm : Meth X.K C mm f)
    (F : FnOk X.prog X.w X.K X.mg X.base CX k f fd ps sp) (hr : Room k X.A) (hb : Binds X.K fd ps ds) (hd : Vals dvs ds) (hx : ∀ σ, PassesAt CX X σ (E σ)) {pl : Sem Bool}
    (ht : eval (.Call (.Attribute o mm apos) [] [] pos) X.env = (do
      let ov ← eval o X.env
      standAt apos.atName
      let q ← holding [ov] (getMethod ov mm pl)
      callWith pos q.1 q.2 (backTo pos (starEach [] X.env)) (backToKw pos (keywordEach [] X.env)))) :
    PE X (.Call (.Attribute o mm apos) [] [] pos) (tMethS C mm sp dvs E ta tNil) := by
  refine ⟨fun pins s σ H Q I h => PySem.W.methodCall_KW (pl := pl) (thn (ho.run pins s σ H _ I h) fun u s1 ⟨x, H1, I1, rx, q, dx, fs, ex, eq, l, k1⟩ => ?_) ht⟩
  subst ex
  obtain rfl : u = Value.ref q := rx
  exact getmeth_ok I1 eq c hm l (PySem.W.callWith_K0 (first := [.ref q]) I1.kIn hm.kp (run_fnSD (us := [.ref q]) (vs := [.ref q]) F hr hb hd (hx σ) I1 (.cons rfl .nil) k1))
end
end Rf
end
section
namespace Rf
open PySem L2
theorem star_cons {e : Expr} {es : List Expr} {env : PySem.Env} (h : plainE e = true) : starEach (e :: es) env = (false, eval e env) :: starEach es env := by
  cases e <;> first | rfl | cases h
theorem back_any {pos : Pos} {env : PySem.Env} : ∀ {es : List Expr}, es.all plainE = true → (backTo pos (starEach es env)).any (·.1) = false
  | [], _ => rfl
  | e :: es, h => by
    rw [List.all_cons, Bool.and_eq_true] at h
    rw [star_cons h.1]
    show (false || (backTo pos (starEach es env)).any (·.1)) = false
    rw [back_any h.2]
    rfl
theorem back_all {pos : Pos} {env : PySem.Env} : ∀ {es : List Expr}, es.all plainE = true → (backTo pos (starEach es env)).all (fun x => !x.1) = true
  | [], _ => rfl
  | e :: es, h => by
    rw [List.all_cons, Bool.and_eq_true] at h
    rw [star_cons h.1]
    show (true && (backTo pos (starEach es env)).all (fun x => !x.1)) = true
    rw [back_all h.2]
    rfl
theorem few_ok {pos : Pos} {env : PySem.Env} {es : List Expr} (h : es.all plainE = true) (hn : es.length < 30) : ((backTo pos (starEach es env)).all (fun x => !x.1) && (backToKw pos (keywordEach [] env)).all (fun x => x.1.isSome)
      && decide (es.length + ([] : List Keyword).length + (if ([] : List Keyword).isEmpty then 0 else 1) < 30)) = true := by
  rw [back_all h]
  show (true && true && decide (es.length + 0 + 0 < 30)) = true
  rw [decide_eq_true (by omega)]
  rfl
theorem base_ok {o : Expr} {m : Str} {env : PySem.Env} (h : noSup o = true) : attributeBase o m env (eval o env) = eval o env := by
  unfold attributeBase
  split
  · rename_i id _ pos
    have h : (id != "super") = true := h
    rw [h]
    rfl
  · rfl
theorem meth_tree {o : Expr} {m : Str} {apos pos : Pos} {es : List Expr} {env : PySem.Env} (hb : noSup o = true) (hp : es.all plainE = true) (hn : es.length < 30) (hl : (apos.endLine == pos.line) = true) :
    eval (.Call (.Attribute o m apos) es [] pos) env = (do
      let ov ← eval o env
      standAt apos.atName
      let q ← holding [ov] (getMethod ov m (do return (← importBound o env).getD true))
      callWith pos q.1 q.2 (backTo pos (starEach es env)) (backToKw pos (keywordEach [] env))) := by
  rw [arm_eval_Call, base_ok hb]
  have hf : methodCallForm (es.length + ([] : List Keyword).length) (backTo pos (starEach es env)) (backToKw pos (keywordEach [] env)) = true := few_ok hp hn
  have hpos : methodCallPos true o env apos pos = pure pos := by unfold methodCallPos; simp [hl]
  unfold methodCall calleeOf
  rw [hf]
  simp only [if_true, hpos, pure_bind]
section
variable {X : Cx} {W : WX} {ft : FT} {pos p : Pos} {l r m : Expr} {a b c : E} {es rest : List Expr} {el : EL}
theorem s_mcall {o : Expr} {c m q : Str} {j : Nat} {ad : Addr} {g : List D → Sto → R D} {apos : Pos} (tk : Takes X W) (hf : ft.fn q = some g) (F : FnK X (ft.dfl q) ad g) (hj : j ≤ (ft.dfl q).length)
    (cl : Cls X.K (He.ga X.K c)) (hm : Meth X.K (He.ga X.K c) m ad) (ho : PE X o (TEv X.K W ft a)) (ha : PA X es (TAv X.K W ft el)) (dt : Dot o apos pos es) (hes : es = [] → el = .nil) :
    PE X (.Call (.Attribute o m apos) es [] pos) (TEv X.K W ft (.mcall a c m q el j)) := by
  obtain ⟨k, fd, ps, F0, hr, hd⟩ := F.ex
  obtain ⟨dvs, dd, rd, vd, bd⟩ := hd j hj
  have step : ∀ {t : TA}, (∀ σ H Q, TAv X.K W ft el σ H Q → t σ H Q) → ∀ σ H Q, TEv X.K W ft (.mcall a c m q el j) σ H Q → tMethS (He.ga X.K c) m (spD X.K g) dvs (WE W) (TEv X.K W ft a) t σ H Q := by
    rintro t ht σ H Q ⟨μ, Ω, ρ, at_, p⟩
    refine ⟨μ, Ω, ρ, at_, (Post.bind (rel := rD X.K) p).mono ?_⟩
    rintro v H1 ⟨μ1, Ω1, x, _, ex1, r1, p1⟩
    have a1 := at_.ext ex1
    have vx := view ex1.wf r1
    generalize lk Ω1 x = x' at vx p1
    cases x' with
    | ins c' fs =>
      by_cases hc : c' = c
      · subst hc
        simp only [if_true] at p1
        by_cases hl : (fs.lookup m).isSome = true
        · rw [if_pos hl] at p1; exact False.elim p1
        · rw [if_neg hl] at p1
          have hl : fs.lookup m = none := by
            cases e : fs.lookup m with
            | none => rfl
            | some _ => rw [e] at hl; exact absurd rfl hl
          obtain ⟨b, dx, ws, rfl, rr, hq⟩ := vx
          refine ⟨b, dx, ws, rfl, hq, lookup_none rr hl, ht _ _ _ ?_⟩
          obtain ⟨μ0, Ω0, ρ0, a0, p0⟩ := many a1 p1
          refine ⟨μ1, Ω1, ρ, a1, (Post.bind (rel := rL X.K) p1).mono ?_⟩
          rintro vs H2 ⟨μ2, Ω2, ds, _, ex2, r2, p2⟩
          rw [hf] at p2
          have r3 := Reps.cons (Rep.tr ex2.tr _ _ r1) r2
          exact sp_of (ds := x :: ds) ex2.wf r3 rd p2
      · simp only [if_neg hc] at p1; exact False.elim p1
    | _ => exact False.elim p1
  cases es with
  | nil =>
    rw [hes rfl] at step ⊢
    refine (pe_methE0 ho cl hm F0 (hr.mono (Nat.le_succ _)) bd vd (fun σ => passAt tk σ) (meth_tree dt.sup dt.pl dt.few dt.line)).imp (step fun σ H Q ⟨μ, Ω, ρ, at_, p⟩ => ?_)
    exact Post.here (rel := rL X.K) p at_.wf Reps.nil
  | cons e es =>
    have hp := dt.pl
    rw [List.all_cons, Bool.and_eq_true] at hp
    exact (pe_methE ho cl hm F0 (hr.mono (Nat.le_succ _)) bd vd (fun σ => passAt tk σ) ha (star_cons hp.1) (back_any hp.2) (meth_tree dt.sup dt.pl dt.few dt.line)).imp (step fun _ _ _ h => h)
end
end Rf
end
section
namespace Rf
open PySem L2
section
variable {X : Cx} {W : WX} {ft : FT} {pos p : Pos} {l r m : Expr} {a b c : E} {es rest : List Expr} {el : EL}
theorem run_makeE {CX : CXT} {k : Nat} {f C : Addr} {fd : FuncData} {ps : List Str} {sp : Sp} {dvs : List V} {ds : List Value} {E : St → XK} {pins : List (Addr × Obj)} {σ : St} {H : Hp} {s : Shared} {Q : VK} {us : List Value} {vs : List V}
    (M : Mk X.K C f) (F : FnOk X.prog X.w X.K X.mg X.base CX k f fd ps sp) (hr : Room (k + 1) X.A) (hb : Binds X.K fd ps ds) (hd : Vals dvs ds) (hx : PassesAt CX X σ (E σ)) (I : Inv X pins σ H s) (rv : Vals vs us)
    (h : ∀ x dx, H x = none → H dx = none → dx ≠ x → sp (.ref x :: (vs ++ dvs)) (upd (upd H dx (.own x)) x (.ins C dx [])) (fun v H2 => v = .non ∧ Q (.ref x) H2) (E σ)) :
    wpAny (model X.prog X.w) X.A (call (.ref C) us) (EP X pins σ Q) X.xe s := by
  let n := s.heap.objs.size
  have h0 := h (n + 1) n (I.hok.fresh (Nat.le_succ _)) (I.hok.fresh (Nat.le_refl _)) (Nat.ne_of_lt (Nat.lt_succ_self _))
  have J := Inv.made (C := C) I
  have rr : Vals (V.ref (n + 1) :: (vs ++ dvs)) (Value.ref (n + 1) :: (us ++ ds)) := .cons rfl (rv.append hd)
  have hl : (Value.ref (n + 1) :: us ++ ds).length = ps.length := by
    have e := rr.length
    rw [F.len _ _ _ _ h0] at e
    exact e.symm
  have bnd := hb _ (Value.ref (n + 1) :: us) J.kIn hl
  have run := F.run _ X.stack _ _ ⟨Value.ref (n + 1) :: us, []⟩ (Value.ref (n + 1) :: (us ++ ds)) _ _ (E σ) (hr.make C us []) (J.env0.make C us []) bnd rr h0
  refine wpAny_call (make_map (f := f) I.kIn M.makes M.init (beq_iff_eq.mp M.fn) (codeAny_mono run fun r s' z => ?_))
  cases r with
  | error e => exact hx pins _ _ e s' J z
  | ok fl =>
    cases fl with
    | ret u =>
      obtain ⟨v, H', I3, ru, ev, q3⟩ := J.after z
      subst ev
      exact ⟨ru, ⟨V.ref (n + 1), H', I3, rfl, q3⟩⟩
    | next => exact False.elim z
    | brk => exact False.elim z
    | cont => exact False.elim z
theorem pe_makeE {CX : CXT} {k : Nat} {f C : Addr} {fd : FuncData} {ps : List Str} {sp : Sp} {dvs : List V} {ds : List Value} {E : St → XK} {x : Str} {t : TA} (M : Mk X.K C f) (F : FnOk X.prog X.w X.K X.mg X.base CX k f fd ps sp) (hr : Room (k + 1) X.A) (hg : Gl X x) (hm : X.mg x = some (.ref C))
    (hb : Binds X.K fd ps ds) (hd : Vals dvs ds) (hx : ∀ σ, PassesAt CX X σ (E σ)) (ha : PA X es t) (hp : es.all plainE = true) (hnil : es = [] → ∀ σ H Q, t σ H Q → Q [] H) (hdb : (x == ("__debug__" : Str)) = false) :
    PE X (.Call (.Name x p) es [] pos) (tMakeS C sp dvs E t) := by
  refine ⟨fun pins s σ H Q I h => wpAny_Call_Name_kw (ld_glob I hg hm ?_ hdb)⟩
  cases es with
  | nil => exact PySem.W.callWith_K0 I.kIn M.kp (run_makeE (us := []) M F hr hb hd (hx σ) I .nil (hnil rfl _ _ _ h))
  | cons e es =>
    rw [List.all_cons, Bool.and_eq_true] at hp
    refine PySem.W.callWith_K (h₀ := X.base) I.ok.mod.kin M.kp (thn (ha.run pos pins s σ H _ I h) fun us s1 ⟨vs, H1, I1, rv, q⟩ => ⟨I1.kIn, ?_⟩) (star_cons hp.1) (back_any hp.2)
    exact run_makeE M F hr hb hd (hx σ) I1 rv q
theorem s_mk {c q : Str} {j : Nat} {ad : Addr} {g : List D → Sto → R D} (tk : Takes X W) (hf : ft.fn q = some g) (F : FnK X (ft.dfl q) ad g) (hj : j ≤ (ft.dfl q).length) (M : Mk X.K (He.ga X.K c) ad) (hg : Gl X c) (hm : X.mg c = some (.ref (He.ga X.K c)))
    (hdb : (c == ("__debug__" : Str)) = false) (ha : PA X es (TAv X.K W ft el)) (hp : es.all plainE = true) (hes : es = [] → el = .nil) : PE X (.Call (.Name c p) es [] pos) (TEv X.K W ft (.mk c q el j)) := by
  obtain ⟨k, fd, ps, F0, hr, hd⟩ := F.ex
  obtain ⟨dvs, dd, rd, vd, bd⟩ := hd j hj
  refine (pe_makeE M F0 hr hg hm bd vd (fun σ => passAt tk σ) ha hp ?_ hdb).imp fun σ H Q ⟨μ, Ω, ρ, at_, p⟩ => ?_
  · intro e σ H Q ⟨μ, Ω, ρ, at_, p⟩
    rw [hes e] at p
    exact Post.here (rel := rL X.K) p at_.wf Reps.nil
  · refine ⟨μ, Ω, ρ, at_, (Post.bind (rel := rL X.K) p).mono ?_⟩
    rintro vs H1 ⟨μ1, Ω1, ds, _, ex1, r1, p1⟩
    rw [hf] at p1
    intro x dx hx hdx hne
    have ex2 : Ext X.K H1 μ1 Ω1 (upd H1 dx (.own x)) μ1 Ω1 := Ext.new ex1.wf hdx
    have hx2 : (upd H1 dx (.own x)) x = none := by rw [upd_ne (Ne.symm hne)]; exact hx
    have ex3 := Ext.push (ho := .ins (He.ga X.K c) dx []) (ob := .ins c []) ex2.wf hx2 ⟨dx, [], rfl, by simp only [RepS]⟩
    have ex4 := ex2.trans ex3
    have rs : Rep X.K (Fz (upd (upd H1 dx (.own x)) x (.ins (He.ga X.K c) dx [])) (pushM μ1 Ω1.length x) (Ω1 ++ [Ob.ins c []])) (pushM μ1 Ω1.length x) (Ω1 ++ [Ob.ins c []]).length (.hd Ω1.length) (.ref x) := by
      simp only [Rep]
      exact ⟨by rw [List.length_append, List.length_singleton]; omega, by rw [pushM_eq]⟩
    refine ⟨_, _, .hd Ω1.length :: (ds ++ (ft.dfl q).drop j), ex4.wf, Reps.cons rs ((Reps.tr ex4.tr _ _ r1).append (rd _ _ _)), ?_⟩
    have p2 : Post X.K (rD X.K) W σ H1 μ1 Ω1 ((g (.hd Ω1.length :: (ds ++ (ft.dfl q).drop j)) (Ω1 ++ [.ins c []])).bind fun r Ω' => match r, (Ω'[Ω1.length]? : Option Ob) with
      | .non, some (.ins c' fs) => if c' = c then .ok (.ins c fs) (Ω'.set Ω1.length .dead) else .bad
      | _, _ => .bad) Q := p1
    generalize g (.hd Ω1.length :: (ds ++ (ft.dfl q).drop j)) (Ω1 ++ [.ins c []]) = rr at p2 ⊢
    cases rr with
    | bad => exact False.elim p2
    | ex e Ω2 => exact fun d H2 μ2 e2 q2 => p2 d H2 μ2 (ex4.trans e2) q2
    | ok d Ω2 =>
      intro v H2 μ2 e2 r2
      cases d with
      | non =>
        cases eo : Ω2[Ω1.length]? with
        | none => simp only [R.bind, eo] at p2; exact False.elim p2
        | some o =>
          cases o with
          | ins c' fs =>
            simp only [R.bind, eo] at p2
            by_cases hc : c' = c
            · rw [if_pos hc] at p2
              subst hc
              have r2 : v = .non := by simpa only [rD, Rep] using r2
              refine ⟨r2, ?_⟩
              have al : Alive Ω2 Ω1.length := ⟨_, eo, by intro z; cases z⟩
              obtain ⟨ho, h1, dx', ws, rfl, rr⟩ := e2.wf.ob _ _ eo (by intro z; cases z)
              have e3 := Ext.freeze e2.wf al
              have hmu : μ2 Ω1.length = x := by
                rw [e2.mu _ (by rw [List.length_append, List.length_singleton]; omega), pushM_eq]
              have hf := Fz.freeze e2.wf al h1
              rw [hmu] at hf
              refine p2 _ _ _ ((ex4.trans e2).trans e3) ?_
              simp only [rD, Rep]
              exact ⟨x, dx', ws, rfl, RepS.tr e3.tr _ _ rr, hf⟩
            · rw [if_neg hc] at p2; exact False.elim p2
          | _ => simp only [R.bind, eo] at p2; exact False.elim p2
      | _ => exact False.elim p2
end
theorem tyB_kd (t : Ty) (d : D) (h : ∀ k, d ≠ .hd k) : tyB t d = kdB t (kdOf d) := by
  cases t <;> cases d <;> first | rfl | (exact absurd rfl (h _))
theorem ty_cls (K : Frg) (t : Ty) : ClsV (tyW K t) (tyU K t) := by cases t <;> constructor
theorem ty_clss (K : Frg) : ∀ ts : List Ty, Paired ClsV (ts.map (tyW K)) (ts.map (tyU K))
  | [] => .nil
  | t :: ts => .cons (ty_cls K t) (ty_clss K ts)
section
variable {X : Cx} {W : WX} {ft : FT} {pos p : Pos} {l r m : Expr} {a b c : E} {es rest : List Expr} {el : EL}
theorem kit_v {cls : List Str} {pins : List (Addr × Obj)} {σ : St} {H : Hp} {s : Shared} {μ : Mu} {Ω : Sto} {d : D} {x : V} {u : Value} (F : IsiOk X.K cls) (I : Inv X pins σ H s) (rx : RelV x u) (vx : View X.K H μ Ω d x) (hd : daOk cls d = true) :
    ∃ P : Heap → Prop, PySem.W.KitX X.K u (kdV X.K (kdOf d)) P ∧ P s.heap ∧ u ≠ .builtin "__main__.__loader__#opaque" := by
  cases d with
  | non => cases (show x = .non from vx); cases (show u = Value.none from rx); exact ⟨_, PySem.W.kitx_none, True.intro, fun z => nomatch z⟩
  | bl y => cases (show x = .bl y from vx); cases (show u = Value.bool y from rx); exact ⟨_, PySem.W.kitx_bool, True.intro, fun z => nomatch z⟩
  | int i => cases (show x = .int i from vx); obtain ⟨t, q⟩ := (show ∃ t, u = Value.int i t from rx); cases q; exact ⟨_, PySem.W.kitx_int, True.intro, fun z => nomatch z⟩
  | str i => cases (show x = .str i from vx); obtain ⟨t, q⟩ := (show ∃ t, u = Value.str i t from rx); cases q; exact ⟨_, PySem.W.kitx_str, True.intro, fun z => nomatch z⟩
  | tup xs =>
    obtain ⟨q, vs, rfl, _, _, c, _, _⟩ := vx
    cases (show u = Value.ref q from rx)
    obtain ⟨its, rr, ht, _⟩ := I.tuple c
    obtain ⟨o, h1, h2, _⟩ := ht
    exact ⟨_, PySem.W.kitx_tuple, ⟨o, h1, h2⟩, fun z => nomatch z⟩
  | e0 =>
    obtain ⟨q, rfl, c⟩ := vx
    cases (show u = Value.ref q from rx)
    obtain ⟨its, rr, ht, _⟩ := I.tuple c
    obtain ⟨o, h1, h2, _⟩ := ht
    exact ⟨_, PySem.W.kitx_tuple, ⟨o, h1, h2⟩, fun z => nomatch z⟩
  | lst xs =>
    obtain ⟨q, vs, rfl, _, _, c⟩ := vx
    cases (show u = Value.ref q from rx)
    obtain ⟨its, rr, ht, _⟩ := I.list (show SqL X.K H q vs from .inl (.inl c))
    obtain ⟨o, n, h1, h2, _⟩ := ht
    exact ⟨_, PySem.W.kitx_list, ⟨o, h1, h2⟩, fun z => nomatch z⟩
  | scr xs =>
    obtain ⟨q, rfl, _, c⟩ := vx
    cases (show u = Value.ref q from rx)
    obtain ⟨its, rr, ht, _⟩ := I.list (show SqL X.K H q _ from c)
    obtain ⟨o, n, h1, h2, _⟩ := ht
    exact ⟨_, PySem.W.kitx_list, ⟨o, h1, h2⟩, fun z => nomatch z⟩
  | dk kvs =>
    obtain ⟨q, ws, rfl, _, c⟩ := vx
    cases (show u = Value.ref q from rx)
    obtain ⟨t1, _, _⟩ := isD_at I (.inl ⟨ws, c⟩)
    obtain ⟨o, h1, h2⟩ := t1
    exact ⟨_, PySem.W.kitx_dict, ⟨o, h1, h2⟩, fun z => nomatch z⟩
  | dt kvs =>
    obtain ⟨q, ws, rfl, _, c⟩ := vx
    cases (show u = Value.ref q from rx)
    obtain ⟨t1, _, _⟩ := isD_at I (.inr ⟨ws, c⟩)
    obtain ⟨o, h1, h2⟩ := t1
    exact ⟨_, PySem.W.kitx_dict, ⟨o, h1, h2⟩, fun z => nomatch z⟩
  | ins c fs =>
    obtain ⟨q, dx, ws, rfl, _, ea⟩ := vx
    cases (show u = Value.ref q from rx)
    have oc := F.own c hd
    obtain ⟨mA, O, _⟩ := ins_get I.hok ea
    obtain ⟨od, J, _⟩ := O.look
    exact ⟨_, PySem.W.kitx_own (oc.cl.get _) oc.cl.hd oc.at_ oc.sp oc.tk oc.mro, J, fun z => nomatch z⟩
  | hd k => cases hd
  | exn c fs => cases hd
theorem kitAny_kd {K : Frg} {cls : List Str} (F : IsiOk K cls) {k : Kd} (hk : ∀ c, k = Kd.own c → cls.contains c = true) : ∀ {ts : List Ty}, ts.all (tyOk cls) = true → PySem.W.kitAny K (kdV K k) (ts.map (tyU K)) = some (ts.any fun t => kdB t k)
  | [], _ => rfl
  | t :: ts, h => by
    rw [List.all_cons, Bool.and_eq_true] at h
    refine kitAny_cons (b := kdB t k) (F.ans k t hk h.1) (fun e => ?_) (fun e => ?_)
    · rw [List.any_cons, e, Bool.false_or]
      exact kitAny_kd F hk h.2
    · rw [List.any_cons, e, Bool.true_or]
theorem isTys_some {cls : List Str} {d : D} {ts : List Ty} {b : Bool} (e : isTys cls d ts = some b) : daOk cls d = true ∧ ts.all (tyOk cls) = true ∧ b = ts.any (fun t => kdB t (kdOf d)) ∧ ∀ c, kdOf d = Kd.own c → cls.contains c = true := by
  unfold isTys at e
  by_cases h : (daOk cls d && ts.all (tyOk cls)) = true
  · rw [if_pos h] at e
    rw [Bool.and_eq_true] at h
    refine ⟨h.1, h.2, ?_, fun c hc => ?_⟩
    · have hne : ∀ k, d ≠ .hd k := fun k z => by rw [z] at h; exact Bool.noConfusion h.1
      rw [← Option.some.inj e]
      congr 1
      funext t
      exact tyB_kd t d hne
    · cases d with
      | ins c' fs => cases hc; exact h.1
      | _ => cases hc
  · rw [if_neg h] at e
    cases e
theorem isi_one {cls : List Str} {t : Ty} (F : IsiOk X.K cls) : CallR X (.builtin "isinstance") (rI1 X.K cls t) := by
  intro pins s σ H xs us Q I rr h
  obtain ⟨μ, Ω, d, x, b, rfl, vx, e, q⟩ := h
  obtain ⟨u1, u2, rfl, r1, r2⟩ := vals2 rr
  have e2 := (ty_cls X.K t).eq r2
  subst e2
  obtain ⟨h1, h2, h3, h4⟩ := isTys_some e
  rw [List.all_cons, Bool.and_eq_true] at h2
  obtain ⟨P, Z, pp, hx⟩ := kit_v F I r1 vx h1
  have ans := F.ans (kdOf d) t h4 h2.1
  have hb : b = kdB t (kdOf d) := by rw [h3]; simp
  rw [← hb] at ans
  exact PySem.W.kia_one Z I.kIn pp ans hx fun tk => ⟨.bl b, H, I.tok tk, rfl, q⟩
theorem isi_many {cls : List Str} {ts : List Ty} (F : IsiOk X.K cls) : CallR X (.builtin "isinstance") (rIN X.K cls ts) := by
  intro pins s σ H xs us Q I rr h
  obtain ⟨μ, Ω, d, x, tp, b, rfl, hT, vx, e, q⟩ := h
  obtain ⟨u1, u2, rfl, r1, r2⟩ := vals2 rr
  cases (show u2 = Value.ref tp from r2)
  obtain ⟨h1, h2, h3, h4⟩ := isTys_some e
  obtain ⟨P, Z, pp, hx⟩ := kit_v F I r1 vx h1
  have ans := kitAny_kd F h4 h2
  rw [← h3] at ans
  obtain ⟨_, its, rv, o, g1, g2, n, g3⟩ := (show ObjOk X.prog X.w H s.heap tp (.tup (ts.map (tyW X.K))) from I.hok tp _ hT)
  have e3 := ClsV.all (ty_clss X.K ts) rv
  subst e3
  obtain ⟨oc, od, dt, sl⟩ := o
  simp only at g2 g3
  subst g2 g3
  exact PySem.W.kia_tup Z I.kIn pp g1 ans hx fun tk => ⟨.bl b, H, I.tok tk, rfl, q⟩
theorem pe_tyN {t : Ty} (h : TyName X t) : PE X (.Name (tyN t) p) (tC (tyW X.K t)) := by
  obtain ⟨hg, h⟩ := h
  cases t with
  | own c => exact pe_glob hg h.1 rfl h.2
  | int => exact pe_bltn hg h (by decide +kernel) rfl (by decide +kernel) (by decide +kernel)
  | bool => exact pe_bltn hg h (by decide +kernel) rfl (by decide +kernel) (by decide +kernel)
  | str => exact pe_bltn hg h (by decide +kernel) rfl (by decide +kernel) (by decide +kernel)
  | list => exact pe_bltn hg h (by decide +kernel) rfl (by decide +kernel) (by decide +kernel)
  | tuple => exact pe_bltn hg h (by decide +kernel) rfl (by decide +kernel) (by decide +kernel)
  | dict => exact pe_bltn hg h (by decide +kernel) rfl (by decide +kernel) (by decide +kernel)
end
end Rf
end
section
namespace Rf
open PySem L2
section
variable {X : Cx} {W : WX} {ft : FT} {pos p : Pos} {l r m : Expr} {a b c : E} {es rest : List Expr} {el : EL}
theorem isi_post {K : Frg} {cls : List Str} {σ : St} {H : Hp} {μ : Mu} {Ω : Sto} {x : D} {ts : List Ty} {Q : VK} (w : Wf K H μ Ω) (p : Post K (rD K) W σ H μ Ω ((opt (isTys cls (lk Ω x) ts) Ω).bind fun b Ω => .ok (.bl b) Ω) Q) :
    ∃ b, isTys cls (lk Ω x) ts = some b ∧ ∀ H', Ext K H μ Ω H' μ Ω → Q (.bl b) H' := by
  cases e : isTys cls (lk Ω x) ts with
  | none => rw [e] at p; exact False.elim p
  | some b => rw [e] at p; exact ⟨b, rfl, fun H' ex => p _ _ _ ex (by simp only [rD, Rep])⟩
theorem s_isi1 {t : Ty} {p2 : Pos} (F : IsiOk X.K ft.cls) (hg : Gl X "isinstance") (hm : X.mg "isinstance" = none) (hn : TyName X t) (ha : PE X l (TEv X.K W ft a)) (hp : plainE l = true) :
    PE X (.Call (.Name "isinstance" p) [l, .Name (tyN t) p2] [] pos) (TEv X.K W ft (.isi a [t])) := by
  refine (pe_callB (isi_one (t := t) F) hg hm (by decide +kernel) (pa_cons ha (pa_cons (pe_tyN hn) pa_nil) (star_cons hp)) (by decide +kernel) (by decide +kernel) (star_cons hp) rfl).imp fun σ H Q ⟨μ, Ω, ρ, at_, p⟩ => ?_
  refine ⟨μ, Ω, ρ, at_, (Post.bind (rel := rD X.K) p).mono ?_⟩
  rintro v H1 ⟨μ1, Ω1, x, _, ex1, r1, p1⟩
  obtain ⟨b, e, q⟩ := isi_post ex1.wf p1
  exact ⟨μ1, Ω1, _, v, b, rfl, view ex1.wf r1, e, q _ (Ext.refl ex1.wf)⟩
theorem pa_tys : ∀ {ts : List Ty} {es : List Expr}, Paired (fun t e => TyName X t ∧ ∃ p, e = Expr.Name (tyN t) p) ts es → PA X es (fun _ H Q => Q (ts.map (tyW X.K)) H)
  | _, _, .nil => pa_nil
  | t :: ts, _, .cons ⟨h, q, e⟩ r => by
    subst e
    exact pa_cons (pe_tyN h) (pa_tys r) rfl
theorem s_isiN {ts : List Ty} {x1 : Nat} {p2 : Pos} (F : IsiOk X.K ft.cls) (hg : Gl X "isinstance") (hm : X.mg "isinstance" = none) (hts : Paired (fun t e => TyName X t ∧ ∃ p, e = Expr.Name (tyN t) p) ts es) (hl : ts.length ≤ 1000) (ha : PE X l (TEv X.K W ft a)) (hp : plainE l = true) :
    PE X (.Call (.Name "isinstance" p) [l, .Tuple es x1 p2] [] pos) (TEv X.K W ft (.isi a ts)) := by
  refine (pe_callB (isi_many (ts := ts) F) hg hm (by decide +kernel) (pa_cons ha (pa_cons (pe_tup (pa_tys hts)) pa_nil) (star_cons hp)) (by decide +kernel) (by decide +kernel) (star_cons hp) rfl).imp fun σ H Q ⟨μ, Ω, ρ, at_, p⟩ => ?_
  refine ⟨μ, Ω, ρ, at_, (Post.bind (rel := rD X.K) p).mono ?_⟩
  rintro v H1 ⟨μ1, Ω1, x, _, ex1, r1, p1⟩
  obtain ⟨b, e, q⟩ := isi_post ex1.wf p1
  refine ⟨by rw [List.length_map, ← big_eq]; exact Nat.le_trans hl (by decide), fun tp htp => ?_⟩
  have ex2 := Ext.new (o := .tup (ts.map (tyW X.K))) ex1.wf htp
  exact ⟨μ1, Ω1, _, v, tp, b, rfl, upd_same, view ex2.wf (Rep.tr ex2.tr _ _ r1), e, q _ ex2⟩
theorem pe_bmG {T id : String} {rr : V → List V → Hp → VK → Prop} {tyv : V → Hp → Prop} {o : Expr} {name : Str} {apos : Pos} {to : TE} {t : TA} (pa : PlainAttrs T) (slot : Slot T name id) (hty : typeOf (.builtin id) = pure (.type "method_descriptor")) (hm : MtR X id rr)
    (hT : ∀ pins s σ H x v, Inv X pins σ H s → RelV x v → tyv x H → s.TypeIs v T ∧ ∀ a, v = .ref a → ∃ ob, s.heap.get? a = some ob ∧ ob.dict = none) (ho : PE X o to) (ha : PA X es t) (hnil : es = [] → ∀ σ H Q, t σ H Q → Q [] H) (dt : Dot o apos pos es) :
    PE X (.Call (.Attribute o name apos) es [] pos) (fun σ H Q => to σ H fun x H1 => tyv x H1 ∧ t σ H1 fun xs H2 => rr x xs H2 Q) := by
  refine ⟨fun pins s σ H Q I h => ?_⟩
  refine wpAny_Call_method (base_ok dt.sup) (few_ok dt.pl dt.few) dt.line pa slot hty (thn (ho.run pins s σ H _ I h) fun v s1 ⟨x, H1, I1, r1, ty, q1⟩ => ?_)
  obtain ⟨h1, h2⟩ := hT pins s1 σ H1 x v I1 r1 ty
  refine ⟨h1, h2, Calls.callWith_builtin (back_any dt.pl) ?_⟩
  cases es with
  | nil => exact PySem.evalArgs_none (hm pins s1 σ H1 x [] v [] Q I1 r1 .nil (hnil rfl _ _ _ q1))
  | cons e es =>
    have hp := dt.pl
    rw [List.all_cons, Bool.and_eq_true] at hp
    have hA := ha.run pos pins s1 σ H1 _ I1 q1
    rw [star_cons hp.1] at hA ⊢
    exact Calls.evalArgs_plain (thn hA fun us s2 ⟨vs, H2, I2, r2, q2⟩ => hm pins s2 σ H2 x vs v us Q I2 r1 r2 q2)
theorem Reps.one' {K : Frg} {G : Hp} {μ : Mu} {n : Nat} {d : D} {vs : List V} (h : Reps K G μ n [d] vs) : ∃ v, vs = [v] ∧ Rep K G μ n d v := by
  simp only [Reps] at h
  obtain ⟨v, ws, rfl, r, rfl⟩ := h
  exact ⟨v, rfl, r⟩
theorem Reps.two' {K : Frg} {G : Hp} {μ : Mu} {n : Nat} {d e : D} {vs : List V} (h : Reps K G μ n [d, e] vs) : ∃ v w, vs = [v, w] ∧ Rep K G μ n d v ∧ Rep K G μ n e w := by
  simp only [Reps] at h
  obtain ⟨v, ws, rfl, r, w, _, rfl, r2, rfl⟩ := h
  exact ⟨v, w, rfl, r, r2⟩
theorem Reps.dropLast {K : Frg} {G : Hp} {μ : Mu} {n : Nat} {xs : List D} {vs : List V} (h : Reps K G μ n xs vs) : Reps K G μ n xs.dropLast vs.dropLast := by
  rw [List.dropLast_eq_take, List.dropLast_eq_take, h.length]
  exact h.take _
theorem Reps.erase {K : Frg} {G : Hp} {μ : Mu} {n : Nat} : ∀ {xs : List D} {vs : List V} (i : Nat), Reps K G μ n xs vs → Reps K G μ n (xs.eraseIdx i) (vs.eraseIdx i)
  | [], vs, i, h => by simp only [Reps] at h; rw [h]; simpa using Reps.nil
  | d :: ds, vs, 0, h => by
    simp only [Reps] at h
    obtain ⟨v, ws, rfl, _, r⟩ := h
    exact r
  | d :: ds, vs, i + 1, h => by
    simp only [Reps] at h
    obtain ⟨v, ws, rfl, r, rs⟩ := h
    exact Reps.cons r (rs.erase i)
theorem Wf.lst {K : Frg} {H : Hp} {μ : Mu} {Ω : Sto} {k : Nat} {xs : List D} (w : Wf K H μ Ω) (e : Ω[k]? = some (.lst xs)) : Alive Ω k ∧ ∃ vs, H (μ k) = some (.lst vs) ∧ Reps K (Fz H μ Ω) μ Ω.length xs vs ∧ vs.length ≤ sizeLine := by
  obtain ⟨ho, h1, vs, rfl, r, z⟩ := w.ob k _ e (by intro z; cases z)
  exact ⟨⟨_, e, by intro z; cases z⟩, vs, h1, r, z⟩
theorem put_lst {K : Frg} {H : Hp} {μ : Mu} {Ω : Sto} {k : Nat} {ys : List D} {vs : List V} {d : D} {Q : VK} {v : V} (w : Wf K H μ Ω) (ha : Alive Ω k) (r : Reps K (Fz H μ Ω) μ Ω.length ys vs) (z : vs.length ≤ sizeLine) (rd : Rep K (Fz H μ Ω) μ Ω.length d v)
    (p : Post K (rD K) (fun _ _ _ _ => False) [] H μ Ω (.ok d (Ω.set k (.lst ys))) Q) : Q v (upd H (μ k) (.lst vs)) := by
  have ex := Ext.put (ho := .lst vs) (ob := .lst ys) w ha (by intro z; cases z) ⟨vs, rfl, r, z⟩
  exact p _ _ _ ex (Rep.tr ex.tr _ _ rd)
theorem rnon {K : Frg} {G : Hp} {μ : Mu} {n : Nat} : Rep K G μ n .non .non := by simp only [Rep]
theorem mtm_append : MtR X "list.append" (rM X.K .append) := by
  intro pins s σ H x vs v us Q I rx rv ⟨μ, Ω, d, ds, w, rd, rs, p⟩
  refine mt_append pins s σ H x vs v us Q I rx rv ?_
  cases d with
  | hd k =>
    match ds, rs, p with
    | [y], rs, p =>
      have p : Post X.K (rD X.K) (fun _ _ _ _ => False) [] H μ Ω (match (Ω[k]? : Option Ob) with
        | some (.lst xs) => if xs.length < big then .ok .non (Ω.set k (.lst (xs ++ [y]))) else .bad
        | _ => .bad) Q := p
      cases eo : Ω[k]? with
      | none => rw [eo] at p; exact False.elim p
      | some o =>
        rw [eo] at p
        cases o with
        | lst xs =>
          by_cases hz : xs.length < big
          · simp only [if_pos hz] at p
            obtain ⟨al, ws, h1, r1, z⟩ := w.lst eo
            obtain ⟨u, rfl, ru⟩ := rs.one'
            simp only [Rep] at rd
            rw [rd.2]
            refine ⟨μ k, ws, u, rfl, rfl, h1, ?_, ?_⟩
            · rw [r1.length, ← big_eq]; exact hz
            · refine put_lst w al (r1.append (Reps.one ru)) ?_ rnon p
              rw [List.length_append, List.length_singleton, r1.length, ← big_eq]; exact hz
          · simp only [if_neg hz] at p; exact False.elim p
        | _ => exact False.elim p
    | [], rs, p => exact False.elim p
    | _ :: _ :: _, rs, p => exact False.elim p
  | _ => exact False.elim p
theorem mtm_extend : MtR X "list.extend" (rM X.K .extend) := by
  intro pins s σ H x vs v us Q I rx rv ⟨μ, Ω, d, ds, w, rd, rs, p⟩
  refine mt_extend pins s σ H x vs v us Q I rx rv ?_
  cases d with
  | hd k =>
    match ds, rs, p with
    | [y], rs, p =>
      have p : Post X.K (rD X.K) (fun _ _ _ _ => False) [] H μ Ω (match (Ω[k]? : Option Ob), lk Ω y with
        | some (.lst xs), .lst ys => if xs.length + ys.length ≤ big then .ok .non (Ω.set k (.lst (xs ++ ys))) else .bad
        | _, _ => .bad) Q := p
      obtain ⟨u, rfl, ru⟩ := rs.one'
      have vu := view w ru
      cases eo : Ω[k]? with
      | none => rw [eo] at p; exact False.elim p
      | some o =>
        rw [eo] at p
        cases o with
        | lst xs =>
          generalize lk Ω y = y' at p vu
          cases y' with
          | lst ys =>
            by_cases hz : xs.length + ys.length ≤ big
            · simp only [if_pos hz] at p
              obtain ⟨al, ws, h1, r1, z⟩ := w.lst eo
              obtain ⟨q, us', rfl, r2, z2, h2⟩ := vu
              simp only [Rep] at rd
              rw [rd.2]
              have hz' : ws.length + us'.length ≤ sizeLine := by rw [r1.length, r2.length, ← big_eq]; exact hz
              exact ⟨μ k, q, ws, us', rfl, rfl, h1, h2, hz', put_lst w al (r1.append r2) (by rw [List.length_append]; exact hz') rnon p⟩
            · simp only [if_neg hz] at p; exact False.elim p
          | _ => exact False.elim p
        | _ => exact False.elim p
    | [], rs, p => exact False.elim p
    | _ :: _ :: _, rs, p => exact False.elim p
  | _ => exact False.elim p
theorem mtm_pop : MtR X "list.pop" (rM X.K .pop) := by
  intro pins s σ H x vs v us Q I rx rv ⟨μ, Ω, d, ds, w, rd, rs, p⟩
  refine mt_pop pins s σ H x vs v us Q I rx rv ?_
  cases d with
  | hd k =>
    match ds, rs, p with
    | [], rs, p =>
      have p : Post X.K (rD X.K) (fun _ _ _ _ => False) [] H μ Ω (match (Ω[k]? : Option Ob) with
        | some (.lst xs) => match xs[xs.length - 1]? with
          | some y => .ok y (Ω.set k (.lst xs.dropLast))
          | none => .bad
        | _ => .bad) Q := p
      cases eo : Ω[k]? with
      | none => rw [eo] at p; exact False.elim p
      | some o =>
        rw [eo] at p
        cases o with
        | lst xs =>
          obtain ⟨al, ws, h1, r1, z⟩ := w.lst eo
          cases ey : xs[xs.length - 1]? with
          | none => simp only [ey] at p; exact False.elim p
          | some y =>
            simp only [ey] at p
            obtain ⟨u, hu, ru⟩ := r1.get ey
            simp only [Rep] at rd
            simp only [Reps] at rs
            rw [rd.2, rs]
            refine ⟨μ k, ws, u, rfl, rfl, h1, by rw [r1.length]; exact hu, put_lst w al r1.dropLast ?_ ru p⟩
            rw [List.length_dropLast]; omega
        | _ => exact False.elim p
    | _ :: _, rs, p => exact False.elim p
  | _ => exact False.elim p
theorem mtm_popi : MtR X "list.pop" (rM X.K .popi) := by
  intro pins s σ H x vs v us Q I rx rv ⟨μ, Ω, d, ds, w, rd, rs, p⟩
  refine mt_popAt pins s σ H x vs v us Q I rx rv ?_
  cases d with
  | hd k =>
    match ds, rs, p with
    | [.int i], rs, p =>
      have p : Post X.K (rD X.K) (fun _ _ _ _ => False) [] H μ Ω (match (Ω[k]? : Option Ob) with
        | some (.lst xs) => match ixN xs.length i with
          | some j => match xs[j]? with
            | some y => if -(2 ^ 63) ≤ i ∧ i < 2 ^ 63 then .ok y (Ω.set k (.lst (xs.eraseIdx j))) else .bad
            | none => .bad
          | none => .bad
        | _ => .bad) Q := p
      cases eo : Ω[k]? with
      | none => rw [eo] at p; exact False.elim p
      | some o =>
        rw [eo] at p
        cases o with
        | lst xs =>
          obtain ⟨al, ws, h1, r1, z⟩ := w.lst eo
          cases ej : ixN xs.length i with
          | none => simp only [ej] at p; exact False.elim p
          | some j =>
            simp only [ej] at p
            cases ey : xs[j]? with
            | none => simp only [ey] at p; exact False.elim p
            | some y =>
              simp only [ey] at p
              by_cases hz : -(2 ^ 63) ≤ i ∧ i < 2 ^ 63
              · simp only [if_pos hz] at p
                obtain ⟨u, hu, ru⟩ := r1.get ey
                obtain ⟨u1, rfl, r2⟩ := rs.one'
                simp only [Rep] at rd r2
                rw [rd.2, r2]
                refine ⟨μ k, ws, i, j, u, rfl, rfl, h1, hz.1, hz.2, by rw [r1.length]; exact (ixN_seq ej).1, hu, put_lst w al (r1.erase j) ?_ ru p⟩
                exact Nat.le_trans (len_erase _ _) z
              · simp only [if_neg hz] at p; exact False.elim p
        | _ => exact False.elim p
    | [], rs, p => exact False.elim p
    | [.non], rs, p => exact False.elim p
    | [.bl _], rs, p => exact False.elim p
    | [.str _], rs, p => exact False.elim p
    | [.tup _], rs, p => exact False.elim p
    | [.e0], rs, p => exact False.elim p
    | [.lst _], rs, p => exact False.elim p
    | [.scr _], rs, p => exact False.elim p
    | [.dk _], rs, p => exact False.elim p
    | [.dt _], rs, p => exact False.elim p
    | [.ins _ _], rs, p => exact False.elim p
    | [.hd _], rs, p => exact False.elim p
    | d1 :: _ :: _, rs, p => cases d1 <;> exact False.elim p
  | _ => exact False.elim p
theorem mtm_clear : MtR X "list.clear" (rM X.K .clear) := by
  intro pins s σ H x vs v us Q I rx rv ⟨μ, Ω, d, ds, w, rd, rs, p⟩
  refine mt_clear pins s σ H x vs v us Q I rx rv ?_
  cases d with
  | hd k =>
    match ds, rs, p with
    | [], rs, p =>
      have p : Post X.K (rD X.K) (fun _ _ _ _ => False) [] H μ Ω (match (Ω[k]? : Option Ob) with
        | some (.lst xs) => .ok .non (Ω.set k (.lst []))
        | _ => .bad) Q := p
      cases eo : Ω[k]? with
      | none => rw [eo] at p; exact False.elim p
      | some o =>
        rw [eo] at p
        cases o with
        | lst xs =>
          obtain ⟨al, ws, h1, r1, z⟩ := w.lst eo
          simp only [Rep] at rd
          simp only [Reps] at rs
          rw [rd.2, rs]
          exact ⟨μ k, ws, rfl, rfl, h1, put_lst w al Reps.nil (Nat.zero_le _) rnon p⟩
        | _ => exact False.elim p
    | _ :: _, rs, p => exact False.elim p
  | _ => exact False.elim p
theorem join_sum (n : Nat) : ∀ ss : List Str, (ss.map fun s => s.length + n).sum = (ss.map (·.length)).sum + ss.length * n
  | [] => by simp
  | s :: ss => by
    simp only [List.map_cons, List.sum_cons, List.length_cons]
    rw [join_sum n ss, Nat.add_mul]
    omega
theorem mtm_join : MtR X "str.join" (rM X.K .join) := by
  intro pins s σ H x vs v us Q I rx rv ⟨μ, Ω, d, ds, w, rd, rs, p⟩
  refine mt_join pins s σ H x vs v us Q I rx rv ?_
  have p : Post X.K (rD X.K) (fun _ _ _ _ => False) [] H μ Ω (opt (methD .join (lk Ω d) ds) Ω) Q := p
  obtain ⟨r0, e, k⟩ := p.optD
  have vd := view w rd
  generalize lk Ω d = d' at vd e
  cases d' with
  | str sep =>
    match ds, rs, e with
    | [y], rs, e =>
      obtain ⟨u, rfl, ru⟩ := rs.one'
      have vu := view0 ru
      have e : (match seqD y with
        | some xs => match strsD xs with
          | some ss => if (ss.map fun s => s.length + sep.length).sum ≤ big then some (D.str (joinD sep ss)) else none
          | none => none
        | none => none) = some r0 := e
      cases e1 : seqD y with
      | none => rw [e1] at e; cases e
      | some xs =>
        rw [e1] at e
        simp only at e
        cases e2 : strsD xs with
        | none => rw [e2] at e; cases e
        | some ss =>
          rw [e2] at e
          obtain ⟨hz, rfl⟩ := opt_if e
          obtain ⟨q, ws, rfl, r1, z, c⟩ := view_seq vu e1
          have ew := strs_rep r1 e2
          subst ew
          refine ⟨sep, q, ss, vd, rfl, c, ?_, k.str w⟩
          rw [← join_sum]; exact hz
    | [], rs, e => cases e
    | _ :: _ :: _, rs, e => cases e
  | _ => cases e
theorem mtm_get (hu : X.A.units + 1 < cLine) : MtR X "dict.get" (rM X.K .get1) := by
  intro pins s σ H x vs v us Q I rx rv ⟨μ, Ω, d, ds, w, rd, rs, p⟩
  have p : Post X.K (rD X.K) (fun _ _ _ _ => False) [] H μ Ω (opt (methD .get1 (lk Ω d) ds) Ω) Q := p
  obtain ⟨r0, e, k⟩ := p.optD
  have vd := view w rd
  generalize lk Ω d = d' at vd e
  match ds, rs, e with
  | [y], rs, e =>
    obtain ⟨u, rfl, ru⟩ := rs.one'
    have vu := view0 ru
    obtain ⟨u1, rfl, r1⟩ := rv.one
    cases d' with
    | dk kvs =>
      have e : ((keyD y).map fun k => (getK kvs k).getD D.non) = some r0 := e
      obtain ⟨q, e1, rfl⟩ := Option.map_eq_some_iff.mp e
      obtain ⟨b, ws, rfl, rk, g⟩ := dget_k vu vd e1
      cases rx
      refine d_get1 hu I g r1 fun w' s3 I3 rw' => ⟨_, H, I3, rw', ?_⟩
      have := getK_rep (k := q) rk
      cases e2 : getK kvs q with
      | none =>
        rw [e2] at k
        rw [this.2 e2]
        exact k.now w rnon
      | some z =>
        rw [e2] at k
        obtain ⟨t, e3, rt⟩ := this.1 z e2
        rw [e3]
        exact k.now w rt
    | dt kvs =>
      have e : ((tkeyD y).map fun k => (getK kvs k).getD D.non) = some r0 := e
      obtain ⟨q, e1, rfl⟩ := Option.map_eq_some_iff.mp e
      obtain ⟨b, ws, rfl, rk, g⟩ := dget_t vu vd e1
      cases rx
      refine d_get1 hu I g r1 fun w' s3 I3 rw' => ⟨_, H, I3, rw', ?_⟩
      have := getT_rep (k := q) rk
      cases e2 : getK kvs q with
      | none =>
        rw [e2] at k
        rw [this.2 e2]
        exact k.now w rnon
      | some z =>
        rw [e2] at k
        obtain ⟨t, e3, rt⟩ := this.1 z e2
        rw [e3]
        exact k.now w rt
    | _ => cases e
  | [], rs, e => cases d' <;> cases e
  | _ :: _ :: _, rs, e => cases d' <;> cases e
theorem mtm_get2 (hu : X.A.units + 1 < cLine) : MtR X "dict.get" (rM X.K .get2) := by
  intro pins s σ H x vs v us Q I rx rv ⟨μ, Ω, d, ds, w, rd, rs, p⟩
  have p : Post X.K (rD X.K) (fun _ _ _ _ => False) [] H μ Ω (opt (methD .get2 (lk Ω d) ds) Ω) Q := p
  obtain ⟨r0, e, k⟩ := p.optD
  have vd := view w rd
  generalize lk Ω d = d' at vd e
  match ds, rs, e with
  | [y, z], rs, e =>
    obtain ⟨u, u', rfl, ru, ru'⟩ := rs.two'
    have vu := view0 ru
    obtain ⟨u1, u2, rfl, r1, r2⟩ := rv.two
    cases d' with
    | dk kvs =>
      have e : ((keyD y).map fun k => (getK kvs k).getD z) = some r0 := e
      obtain ⟨q, e1, rfl⟩ := Option.map_eq_some_iff.mp e
      obtain ⟨b, ws, rfl, rk, g⟩ := dget_k vu vd e1
      cases rx
      refine d_get2 hu I g r1 r2 fun w' s3 I3 rw' => ⟨_, H, I3, rw', ?_⟩
      have := getK_rep (k := q) rk
      cases e2 : getK kvs q with
      | none =>
        rw [e2] at k
        rw [this.2 e2]
        exact k.now w ru'
      | some z =>
        rw [e2] at k
        obtain ⟨t, e3, rt⟩ := this.1 z e2
        rw [e3]
        exact k.now w rt
    | dt kvs =>
      have e : ((tkeyD y).map fun k => (getK kvs k).getD z) = some r0 := e
      obtain ⟨q, e1, rfl⟩ := Option.map_eq_some_iff.mp e
      obtain ⟨b, ws, rfl, rk, g⟩ := dget_t vu vd e1
      cases rx
      refine d_get2 hu I g r1 r2 fun w' s3 I3 rw' => ⟨_, H, I3, rw', ?_⟩
      have := getT_rep (k := q) rk
      cases e2 : getK kvs q with
      | none =>
        rw [e2] at k
        rw [this.2 e2]
        exact k.now w ru'
      | some z =>
        rw [e2] at k
        obtain ⟨t, e3, rt⟩ := this.1 z e2
        rw [e3]
        exact k.now w rt
    | _ => cases e
  | [], rs, e => cases d' <;> cases e
  | [_], rs, e => cases d' <;> cases e
  | _ :: _ :: _ :: _, rs, e => cases d' <;> cases e
theorem recv_of {K : Frg} {H : Hp} {μ : Mu} {Ω : Sto} {m : Mt} {d : D} {v : V} (h : recvOk m d = true) (vd : View K H μ Ω d v) : recvV m v H := by
  cases m <;> cases d <;> first | exact Bool.noConfusion h | skip
  all_goals first
    | exact ⟨_, vd⟩
    | (obtain ⟨q, vs, e, _, _, c⟩ := vd; exact ⟨q, vs, e, c⟩)
    | (obtain ⟨q, vs, e, _, c⟩ := vd; exact ⟨q, e, .inl ⟨_, c⟩⟩)
    | (obtain ⟨q, vs, e, _, c⟩ := vd; exact ⟨q, e, .inr ⟨_, c⟩⟩)
theorem recv_lst {pins : List (Addr × Obj)} {s : Shared} {σ : St} {H : Hp} {x : V} {v : Value} (I : Inv X pins σ H s) (rx : RelV x v) (h : ∃ q vs, x = .ref q ∧ H q = some (.lst vs)) : s.TypeIs v "list" ∧ ∀ a, v = .ref a → ∃ ob, s.heap.get? a = some ob ∧ ob.dict = none := by
  obtain ⟨q, vs, rfl, e⟩ := h
  cases rx
  obtain ⟨its, rr, ht, _⟩ := I.list (show SqL X.K H q vs from .inl (.inl e))
  obtain ⟨o, n, h1, h2, h3, _⟩ := ht
  exact ⟨⟨o, h1, h2⟩, fun a e => by cases e; exact ⟨o, h1, h3⟩⟩
theorem recv_str {s : Shared} {x : V} {v : Value} (rx : RelV x v) (h : ∃ q, x = .str q) : s.TypeIs v "str" ∧ ∀ a, v = .ref a → ∃ ob, s.heap.get? a = some ob ∧ ob.dict = none := by
  obtain ⟨q, rfl⟩ := h
  obtain ⟨t, rfl⟩ := rx
  exact ⟨typeIs_str _ _ _, fun _ e => nomatch e⟩
theorem recv_dct {pins : List (Addr × Obj)} {s : Shared} {σ : St} {H : Hp} {x : V} {v : Value} (I : Inv X pins σ H s) (rx : RelV x v) (h : ∃ q, x = .ref q ∧ IsD H q) : s.TypeIs v "dict" ∧ ∀ a, v = .ref a → ∃ ob, s.heap.get? a = some ob ∧ ob.dict = none := by
  obtain ⟨q, rfl, e⟩ := h
  cases rx
  obtain ⟨h1, h2, _⟩ := isD_at I e
  exact ⟨h1, h2⟩
theorem i_meth {m : Mt} {σ : St} {H : Hp} {Q : VK} (h : TEv X.K W ft (.meth a m el) σ H Q) : TEv X.K W ft a σ H fun x H1 => recvV m x H1 ∧ TAv X.K W ft el σ H1 fun xs H2 => rM X.K m x xs H2 Q := by
  obtain ⟨μ, Ω, ρ, at_, p⟩ := h
  refine ⟨μ, Ω, ρ, at_, (Post.bind (rel := rD X.K) p).mono ?_⟩
  rintro v H1 ⟨μ1, Ω1, x, _, ex1, r1, p1⟩
  by_cases hr : recvOk m (lk Ω1 x) = true
  · rw [if_pos hr] at p1
    refine ⟨recv_of hr (view ex1.wf r1), μ1, Ω1, ρ, at_.ext ex1, (Post.bind (rel := rL X.K) p1).mono ?_⟩
    rintro vs H2 ⟨μ2, Ω2, ds, _, ex2, r2, p2⟩
    refine ⟨μ2, Ω2, x, ds, ex2.wf, Rep.tr ex2.tr _ _ r1, r2, ?_⟩
    have hno : ∀ e Ω', methX m x ds Ω2 ≠ .ex e Ω' := by
      intro e Ω' z
      unfold methX at z
      split at z
      · unfold opt at z
        split at z <;> cases z
      · split at z
        · unfold methM at z
          repeat' (split at z)
          all_goals cases z
        · cases z
    generalize methX m x ds Ω2 = rr at p2 hno
    cases rr with
    | ok d Ω3 => exact p2
    | ex e Ω3 => exact absurd rfl (hno e Ω3)
    | bad => exact False.elim p2
  · rw [if_neg hr] at p1; exact False.elim p1
theorem ta_nil (hes : es = [] → el = .nil) (e : es = []) (σ : St) (H : Hp) (Q : List V → Hp → Prop) (h : TAv X.K W ft el σ H Q) : Q [] H := by
  obtain ⟨μ, Ω, ρ, at_, p⟩ := h
  rw [hes e] at p
  exact Post.here (rel := rL X.K) p at_.wf Reps.nil
theorem s_meth {o : Expr} {apos : Pos} (m : Mt) (hu : X.A.units + 1 < cLine) (ho : PE X o (TEv X.K W ft a)) (ha : PA X es (TAv X.K W ft el)) (dt : Dot o apos pos es) (hes : es = [] → el = .nil) :
    PE X (.Call (.Attribute o m.name apos) es [] pos) (TEv X.K W ft (.meth a m el)) := by
  cases m with
  | append => exact (pe_bmG (tyv := recvV .append) F.plainAttrs_list F.slot_list_append F.type_list_append mtm_append (fun _ _ _ _ _ _ I rx h => recv_lst I rx h) ho ha (ta_nil hes) dt).imp fun _ _ _ h => i_meth h
  | extend => exact (pe_bmG (tyv := recvV .extend) F.plainAttrs_list F.slot_list_extend F.type_list_extend mtm_extend (fun _ _ _ _ _ _ I rx h => recv_lst I rx h) ho ha (ta_nil hes) dt).imp fun _ _ _ h => i_meth h
  | pop => exact (pe_bmG (tyv := recvV .pop) F.plainAttrs_list F.slot_list_pop F.type_list_pop mtm_pop (fun _ _ _ _ _ _ I rx h => recv_lst I rx h) ho ha (ta_nil hes) dt).imp fun _ _ _ h => i_meth h
  | popi => exact (pe_bmG (tyv := recvV .popi) F.plainAttrs_list F.slot_list_pop F.type_list_pop mtm_popi (fun _ _ _ _ _ _ I rx h => recv_lst I rx h) ho ha (ta_nil hes) dt).imp fun _ _ _ h => i_meth h
  | clear => exact (pe_bmG (tyv := recvV .clear) F.plainAttrs_list F.slot_list_clear F.type_list_clear mtm_clear (fun _ _ _ _ _ _ I rx h => recv_lst I rx h) ho ha (ta_nil hes) dt).imp fun _ _ _ h => i_meth h
  | join => exact (pe_bmG (tyv := recvV .join) F.plainAttrs_str F.slot_str_join F.type_str_join mtm_join (fun _ _ _ _ _ _ I rx h => recv_str rx h) ho ha (ta_nil hes) dt).imp fun _ _ _ h => i_meth h
  | get1 => exact (pe_bmG (tyv := recvV .get1) F.plainAttrs_dict F.slot_dict_get F.type_dict_get (mtm_get hu) (fun _ _ _ _ _ _ I rx h => recv_dct I rx h) ho ha (ta_nil hes) dt).imp fun _ _ _ h => i_meth h
  | get2 => exact (pe_bmG (tyv := recvV .get2) F.plainAttrs_dict F.slot_dict_get F.type_dict_get (mtm_get2 hu) (fun _ _ _ _ _ _ I rx h => recv_dct I rx h) ho ha (ta_nil hes) dt).imp fun _ _ _ h => i_meth h
end
end Rf
end
section
namespace Rf
open PySem L2
section
variable {K : Frg} {H : Hp} {μ : Mu} {Ω : Sto}
theorem same_yld {H' : Hp} {μ' : Mu} {Ω' : Sto} {d : D} {v : V} (w : Wf K H' μ' Ω') (r : Rep K (Fz H' μ' Ω') μ' Ω'.length d v) : (∀ a o, H' a = some o → H' a = some o) ∧ Ext K H' μ' Ω' H' μ' Ω' ∧ Rep K (Fz H' μ' Ω') μ' Ω'.length d v := ⟨fun _ _ h => h, Ext.refl w, r⟩
theorem it_list {d : D} {a : Addr} {xs : List D} (r : Rep K (Fz H μ Ω) μ Ω.length d (.ref a)) (e : seqD d = some xs) (hl : ∀ H' μ' Ω', Rep K (Fz H' μ' Ω') μ' Ω'.length d (.ref a) → ∃ vs, Reps K (Fz H' μ' Ω') μ' Ω'.length xs vs ∧ SqL K H' a vs) : ItRep K (Itl K a) H μ Ω xs where
  stop := fun i H' μ' Ω' ex hi => by
    obtain ⟨vs, rs, sq⟩ := hl _ _ _ (Rep.tr ex.tr _ _ r)
    exact ⟨vs, sq, by rw [rs.length]; exact hi⟩
  go := fun i H' μ' Ω' ex hi => by
    obtain ⟨vs, rs, sq⟩ := hl _ _ _ (Rep.tr ex.tr _ _ r)
    obtain ⟨v, e1, _⟩ := rs.get (List.getElem?_eq_getElem hi)
    exact ⟨vs, v, sq, e1⟩
  yld := fun i H' μ' Ω' v H'' d' ex hd ⟨h1, h2⟩ => by
    subst h1
    obtain ⟨vs, rs, sq⟩ := hl _ _ _ (Rep.tr ex.tr _ _ r)
    obtain ⟨u, e1, ru⟩ := rs.get hd
    have := h2 vs sq
    rw [this] at e1
    cases e1
    exact same_yld ex.wf ru
theorem it_tup {d : D} {a : Addr} {xs : List D} (r : Rep K (Fz H μ Ω) μ Ω.length d (.ref a)) (e : seqD d = some xs) (hl : ∀ H' μ' Ω', Rep K (Fz H' μ' Ω') μ' Ω'.length d (.ref a) → ∃ vs, Reps K (Fz H' μ' Ω') μ' Ω'.length xs vs ∧ SqT K H' a vs) : ItRep K (Itt K a) H μ Ω xs where
  stop := fun i H' μ' Ω' ex hi => by
    obtain ⟨vs, rs, sq⟩ := hl _ _ _ (Rep.tr ex.tr _ _ r)
    exact ⟨vs, sq, by rw [rs.length]; exact hi⟩
  go := fun i H' μ' Ω' ex hi => by
    obtain ⟨vs, rs, sq⟩ := hl _ _ _ (Rep.tr ex.tr _ _ r)
    obtain ⟨v, e1, _⟩ := rs.get (List.getElem?_eq_getElem hi)
    exact ⟨vs, v, sq, e1⟩
  yld := fun i H' μ' Ω' v H'' d' ex hd ⟨h1, h2⟩ => by
    subst h1
    obtain ⟨vs, rs, sq⟩ := hl _ _ _ (Rep.tr ex.tr _ _ r)
    obtain ⟨u, e1, ru⟩ := rs.get hd
    have := h2 vs sq
    rw [this] at e1
    cases e1
    exact same_yld ex.wf ru
theorem lst_sq {xs : List D} {a : Addr} (r : Rep K (Fz H μ Ω) μ Ω.length (.lst xs) (.ref a)) : ∃ vs, Reps K (Fz H μ Ω) μ Ω.length xs vs ∧ SqL K H a vs := by
  obtain ⟨p, vs, e, rs, _, c⟩ := view0 r
  cases e
  exact ⟨vs, rs, .inl (.inl c)⟩
theorem scr_sq {ns : List Int} {a : Addr} (r : Rep K (Fz H μ Ω) μ Ω.length (.scr ns) (.ref a)) : ∃ vs, Reps K (Fz H μ Ω) μ Ω.length (ns.map .int) vs ∧ SqL K H a vs := by
  obtain ⟨p, e, _, c⟩ := view0 r
  cases e
  exact ⟨_, ints_back ns, c⟩
theorem tup_sq {xs : List D} {a : Addr} (r : Rep K (Fz H μ Ω) μ Ω.length (.tup xs) (.ref a)) : ∃ vs, Reps K (Fz H μ Ω) μ Ω.length xs vs ∧ SqT K H a vs := by
  obtain ⟨p, vs, e, rs, _, c, _⟩ := view0 r
  cases e
  exact ⟨vs, rs, c⟩
theorem e0_sq {a : Addr} (r : Rep K (Fz H μ Ω) μ Ω.length .e0 (.ref a)) : ∃ vs, Reps K (Fz H μ Ω) μ Ω.length [] vs ∧ SqT K H a vs := by
  obtain ⟨p, e, c⟩ := view0 r
  cases e
  exact ⟨[], Reps.nil, c⟩
theorem seq_kind {d : D} {v : V} {xs : List D} (r : Rep K (Fz H μ Ω) μ Ω.length d v) (e : seqD d = some xs) : ∃ a, v = .ref a ∧
    ((∀ H' μ' Ω', Rep K (Fz H' μ' Ω') μ' Ω'.length d (.ref a) → ∃ vs, Reps K (Fz H' μ' Ω') μ' Ω'.length xs vs ∧ SqL K H' a vs) ∨
     (∀ H' μ' Ω', Rep K (Fz H' μ' Ω') μ' Ω'.length d (.ref a) → ∃ vs, Reps K (Fz H' μ' Ω') μ' Ω'.length xs vs ∧ SqT K H' a vs)) := by
  cases d with
  | lst ys => cases e; obtain ⟨p, vs, e1, _⟩ := view0 r; exact ⟨p, e1, .inl fun _ _ _ h => lst_sq h⟩
  | scr ys => cases e; obtain ⟨p, e1, _⟩ := view0 r; exact ⟨p, e1, .inl fun _ _ _ h => scr_sq h⟩
  | tup ys => cases e; obtain ⟨p, vs, e1, _⟩ := view0 r; exact ⟨p, e1, .inr fun _ _ _ h => tup_sq h⟩
  | e0 => cases e; obtain ⟨p, e1, _⟩ := view0 r; exact ⟨p, e1, .inr fun _ _ _ h => e0_sq h⟩
  | _ => cases e
theorem keyK_get : ∀ {kvs : List (Key × D)} {ws : List (Key × V)} {i : Nat} {k : Key} {v : V}, RepK K H μ n kvs ws → ws[i]? = some (k, v) → ∃ d, kvs[i]? = some (k, d) ∧ Rep K H μ n d v
  | [], ws, i, k, v, h, e => by simp only [RepK] at h; rw [h] at e; simp at e
  | (q, d) :: r, ws, 0, k, v, h, e => by
    simp only [RepK] at h
    obtain ⟨u, w', rfl, ru, rr⟩ := h
    simp at e
    obtain ⟨rfl, rfl⟩ := e
    exact ⟨d, rfl, ru⟩
  | (q, d) :: r, ws, i + 1, k, v, h, e => by
    simp only [RepK] at h
    obtain ⟨u, w', rfl, ru, rr⟩ := h
    exact keyK_get (i := i) rr (by simpa using e)
theorem keyT_get : ∀ {kvs : List (List Key × D)} {ws : List (List Key × V)} {i : Nat} {k : List Key} {v : V}, RepT K H μ n kvs ws → ws[i]? = some (k, v) → ∃ d, kvs[i]? = some (k, d) ∧ Rep K H μ n d v
  | [], ws, i, k, v, h, e => by simp only [RepT] at h; rw [h] at e; simp at e
  | (q, d) :: r, ws, 0, k, v, h, e => by
    simp only [RepT] at h
    obtain ⟨u, w', rfl, ru, rr⟩ := h
    simp at e
    obtain ⟨rfl, rfl⟩ := e
    exact ⟨d, rfl, ru⟩
  | (q, d) :: r, ws, i + 1, k, v, h, e => by
    simp only [RepT] at h
    obtain ⟨u, w', rfl, ru, rr⟩ := h
    exact keyT_get (i := i) rr (by simpa using e)
theorem keysR : ∀ (k : List Key), Reps K H μ n (k.map kD) (k.map kV)
  | [] => Reps.nil
  | q :: k => Reps.cons (kD_rep q) (keysR k)
theorem it_keys {kvs : List (Key × D)} {ws : List (Key × V)} {p : Addr} {od : Obj} (r : RepK K (Fz H μ Ω) μ Ω.length kvs ws) (hp : Fz H μ Ω p = some (.frz od (.dK ws))) : ItRep K (Itk p od ws) H μ Ω (kvs.map fun kv => kD kv.1) where
  stop := fun i H' μ' Ω' ex hi => ⟨Fz.le (ex.fz _ _ hp), by rw [r.length]; simpa using hi⟩
  go := fun i H' μ' Ω' ex hi => ⟨Fz.le (ex.fz _ _ hp), by rw [r.length]; simpa using hi⟩
  yld := fun i H' μ' Ω' v H'' d ex hd ⟨h1, k, u, h2, h3⟩ => by
    subst h1 h3
    obtain ⟨d', e1, _⟩ := keyK_get r h2
    rw [List.getElem?_map, e1] at hd
    cases hd
    exact same_yld ex.wf (kD_rep k)
theorem it_keysT {kvs : List (List Key × D)} {ws : List (List Key × V)} {p : Addr} {od : Obj} (hz : ∀ kv ∈ kvs, kv.1.length ≤ big) (r : RepT K (Fz H μ Ω) μ Ω.length kvs ws) (hp : Fz H μ Ω p = some (.frz od (.dT ws))) : ItRep K (Itkt p od ws) H μ Ω (kvs.map fun kv => .tup (kv.1.map kD)) where
  stop := fun i H' μ' Ω' ex hi => ⟨Fz.le (ex.fz _ _ hp), by rw [r.length]; simpa using hi⟩
  go := fun i H' μ' Ω' ex hi => ⟨Fz.le (ex.fz _ _ hp), by rw [r.length]; simpa using hi⟩
  yld := fun i H' μ' Ω' v H'' d ex hd ⟨h1, k, u, q, h2, h3, h4⟩ => by
    subst h1 h3
    obtain ⟨d', e1, _⟩ := keyT_get r h2
    have hm := List.mem_of_getElem? e1
    rw [List.getElem?_map, e1] at hd
    cases hd
    refine same_yld ex.wf ?_
    simp only [Rep]
    exact ⟨q, _, rfl, keysR k, by rw [List.length_map, ← big_eq]; exact hz _ hm, .inl (Fz.tup ex.wf h4)⟩
theorem new_yld {H' : Hp} {μ' : Mu} {Ω' : Sto} {T : Addr} {x y : D} {v u : V} (w : Wf K H' μ' Ω') (hT : H' T = none) (rx : Rep K (Fz H' μ' Ω') μ' Ω'.length x v) (ry : Rep K (Fz H' μ' Ω') μ' Ω'.length y u) :
    (∀ a o, H' a = some o → upd H' T (.tup [v, u]) a = some o) ∧ Ext K H' μ' Ω' (upd H' T (.tup [v, u])) μ' Ω' ∧ Rep K (Fz (upd H' T (.tup [v, u])) μ' Ω') μ' Ω'.length (.tup [x, y]) (.ref T) := by
  obtain ⟨e, rp⟩ := res_tup (p := T) w (Reps.cons rx (Reps.one ry)) (by rw [← big_eq]; exact Nat.le_of_ble_eq_true rfl) hT
  exact ⟨fun a o h => by rw [upd_ne (ne_of_none h hT)]; exact h, e, rp⟩
theorem it_enum {d : D} {a : Addr} {xs : List D} (r : Rep K (Fz H μ Ω) μ Ω.length d (.ref a)) (hl : ∀ H' μ' Ω', Rep K (Fz H' μ' Ω') μ' Ω'.length d (.ref a) → ∃ vs, Reps K (Fz H' μ' Ω') μ' Ω'.length xs vs ∧ SqL K H' a vs) :
    ItRep K (Ite K a) H μ Ω (xs.zipIdx.map fun p => .tup [.int p.2, p.1]) where
  stop := fun i H' μ' Ω' ex hi => by
    obtain ⟨vs, rs, sq⟩ := hl _ _ _ (Rep.tr ex.tr _ _ r)
    exact ⟨vs, sq, by rw [rs.length]; simpa using hi⟩
  go := fun i H' μ' Ω' ex hi => by
    obtain ⟨vs, rs, sq⟩ := hl _ _ _ (Rep.tr ex.tr _ _ r)
    have hi : i < xs.length := by simpa using hi
    obtain ⟨v, e1, _⟩ := rs.get (List.getElem?_eq_getElem hi)
    exact ⟨vs, v, sq, e1⟩
  yld := fun i H' μ' Ω' v H'' d' ex hd ⟨T, x, h1, h2, h3, h4⟩ => by
    subst h1 h3
    obtain ⟨vs, rs, sq⟩ := hl _ _ _ (Rep.tr ex.tr _ _ r)
    have e4 := h4 vs sq
    rw [List.getElem?_map, List.getElem?_zipIdx] at hd
    cases e5 : xs[i]? with
    | none => rw [e5] at hd; cases hd
    | some y =>
      rw [e5] at hd
      obtain ⟨u, e6, ru⟩ := rs.get e5
      rw [e4] at e6
      cases e6
      have hd : D.tup [.int ((0 + i : Nat) : Int), y] = d' := Option.some.inj hd
      subst hd
      rw [Nat.zero_add]
      exact new_yld ex.wf h2 (by simp only [Rep]) ru
theorem zip_get : ∀ {xs ys : List D} {i : Nat} {d : D}, (List.zipWith (fun x y => D.tup [x, y]) xs ys)[i]? = some d → ∃ x y, xs[i]? = some x ∧ ys[i]? = some y ∧ d = .tup [x, y] := by
  intro xs ys i d h
  rw [List.getElem?_zipWith] at h
  cases e1 : xs[i]? with
  | none => rw [e1] at h; simp at h
  | some x =>
    cases e2 : ys[i]? with
    | none => rw [e1, e2] at h; simp at h
    | some y => rw [e1, e2] at h; simp at h; exact ⟨x, y, rfl, rfl, h.symm⟩
theorem it_zip {d1 d2 : D} {a b : Addr} {xs ys : List D} (r1 : Rep K (Fz H μ Ω) μ Ω.length d1 (.ref a)) (r2 : Rep K (Fz H μ Ω) μ Ω.length d2 (.ref b))
    (l1 : ∀ H' μ' Ω', Rep K (Fz H' μ' Ω') μ' Ω'.length d1 (.ref a) → ∃ vs, Reps K (Fz H' μ' Ω') μ' Ω'.length xs vs ∧ SqL K H' a vs) (l2 : ∀ H' μ' Ω', Rep K (Fz H' μ' Ω') μ' Ω'.length d2 (.ref b) → ∃ vs, Reps K (Fz H' μ' Ω') μ' Ω'.length ys vs ∧ SqL K H' b vs) :
    ItRep K (Itz K a b) H μ Ω (List.zipWith (fun x y => .tup [x, y]) xs ys) where
  stop := fun i H' μ' Ω' ex hi => by
    obtain ⟨vs, rs, sq⟩ := l1 _ _ _ (Rep.tr ex.tr _ _ r1)
    obtain ⟨us, rt, st⟩ := l2 _ _ _ (Rep.tr ex.tr _ _ r2)
    refine ⟨vs, us, sq, st, ?_⟩
    rw [List.length_zipWith] at hi
    rw [rs.length, rt.length]
    omega
  go := fun i H' μ' Ω' ex hi => by
    obtain ⟨vs, rs, sq⟩ := l1 _ _ _ (Rep.tr ex.tr _ _ r1)
    obtain ⟨us, rt, st⟩ := l2 _ _ _ (Rep.tr ex.tr _ _ r2)
    rw [List.length_zipWith] at hi
    obtain ⟨v, e1, _⟩ := rs.get (List.getElem?_eq_getElem (show i < xs.length by omega))
    obtain ⟨u, e2, _⟩ := rt.get (List.getElem?_eq_getElem (show i < ys.length by omega))
    exact ⟨vs, us, v, u, sq, st, e1, e2⟩
  yld := fun i H' μ' Ω' v H'' d' ex hd ⟨T, x, y, h1, h2, h3, h4, h5⟩ => by
    subst h1 h3
    obtain ⟨vs, rs, sq⟩ := l1 _ _ _ (Rep.tr ex.tr _ _ r1)
    obtain ⟨us, rt, st⟩ := l2 _ _ _ (Rep.tr ex.tr _ _ r2)
    obtain ⟨p, q, e1, e2, rfl⟩ := zip_get hd
    obtain ⟨v1, e3, r3⟩ := rs.get e1
    obtain ⟨v2, e4, r4⟩ := rt.get e2
    rw [h4 vs sq] at e3
    rw [h5 us st] at e4
    cases e3
    cases e4
    exact new_yld ex.wf h2 r3 r4
theorem it_zipT {d1 d2 : D} {a b : Addr} {xs ys : List D} (r1 : Rep K (Fz H μ Ω) μ Ω.length d1 (.ref a)) (r2 : Rep K (Fz H μ Ω) μ Ω.length d2 (.ref b))
    (l1 : ∀ H' μ' Ω', Rep K (Fz H' μ' Ω') μ' Ω'.length d1 (.ref a) → ∃ vs, Reps K (Fz H' μ' Ω') μ' Ω'.length xs vs ∧ SqT K H' a vs) (l2 : ∀ H' μ' Ω', Rep K (Fz H' μ' Ω') μ' Ω'.length d2 (.ref b) → ∃ vs, Reps K (Fz H' μ' Ω') μ' Ω'.length ys vs ∧ SqT K H' b vs) :
    ItRep K (RZ.ItzT K a b) H μ Ω (List.zipWith (fun x y => .tup [x, y]) xs ys) where
  stop := fun i H' μ' Ω' ex hi => by
    obtain ⟨vs, rs, sq⟩ := l1 _ _ _ (Rep.tr ex.tr _ _ r1)
    obtain ⟨us, rt, st⟩ := l2 _ _ _ (Rep.tr ex.tr _ _ r2)
    refine ⟨vs, us, sq, st, ?_⟩
    rw [List.length_zipWith] at hi
    rw [rs.length, rt.length]
    omega
  go := fun i H' μ' Ω' ex hi => by
    obtain ⟨vs, rs, sq⟩ := l1 _ _ _ (Rep.tr ex.tr _ _ r1)
    obtain ⟨us, rt, st⟩ := l2 _ _ _ (Rep.tr ex.tr _ _ r2)
    rw [List.length_zipWith] at hi
    obtain ⟨v, e1, _⟩ := rs.get (List.getElem?_eq_getElem (show i < xs.length by omega))
    obtain ⟨u, e2, _⟩ := rt.get (List.getElem?_eq_getElem (show i < ys.length by omega))
    exact ⟨vs, us, v, u, sq, st, e1, e2⟩
  yld := fun i H' μ' Ω' v H'' d' ex hd ⟨T, x, y, h1, h2, h3, h4, h5⟩ => by
    subst h1 h3
    obtain ⟨vs, rs, sq⟩ := l1 _ _ _ (Rep.tr ex.tr _ _ r1)
    obtain ⟨us, rt, st⟩ := l2 _ _ _ (Rep.tr ex.tr _ _ r2)
    obtain ⟨p, q, e1, e2, rfl⟩ := zip_get hd
    obtain ⟨v1, e3, r3⟩ := rs.get e1
    obtain ⟨v2, e4, r4⟩ := rt.get e2
    rw [h4 vs sq] at e3
    rw [h5 us st] at e4
    cases e3
    cases e4
    exact new_yld ex.wf h2 r3 r4
theorem it_rng {lo : Int} {n : Nat} : ItRep K (Itr lo n) H μ Ω ((List.range n).map fun (k : Nat) => .int (lo + (k : Int))) where
  stop := fun i H' μ' Ω' ex hi => by
    show n ≤ i
    simpa using hi
  go := fun i H' μ' Ω' ex hi => by
    show i < n
    simpa using hi
  yld := fun i H' μ' Ω' v H'' d ex hd ⟨h1, h2⟩ => by
    subst h1 h2
    rw [List.getElem?_map] at hd
    cases e : (List.range n)[i]? with
    | none => rw [e] at hd; cases hd
    | some j =>
      rw [e] at hd
      have e2 := List.getElem?_eq_some_iff.mp e
      obtain ⟨hl, e3⟩ := e2
      rw [List.getElem_range] at e3
      subst e3
      cases hd
      exact same_yld ex.wf (by simp only [Rep])
theorem it_str {s : Str} : ItRep K (Its s) H μ Ω (s.cps.toList.map fun c => .str ⟨#[c]⟩) where
  stop := fun i H' μ' Ω' ex hi => by
    show s.cps.size ≤ i
    simpa using hi
  go := fun i H' μ' Ω' ex hi => by
    show i < s.cps.size
    simpa using hi
  yld := fun i H' μ' Ω' v H'' d ex hd ⟨h1, c, h2, h3⟩ => by
    subst h1 h3
    rw [List.getElem?_map, Array.getElem?_toList, h2] at hd
    cases hd
    exact same_yld ex.wf (by simp only [Rep])
end
end Rf
end
section
namespace Rf
open PySem L2
theorem wipe_set {σ : St} {i : Nat} {v : Option V} : ∀ {is : List Nat}, i ∈ is → wipe (σ.set i v) is = wipe σ is
  | j :: is, h => by
    show (wipe (σ.set i v) is).set j none = (wipe σ is).set j none
    by_cases hi : i ∈ is
    · rw [wipe_set hi]
    · have hj : i = j := by
        rcases List.mem_cons.mp h with e | e
        · exact e
        · exact absurd e hi
      subst hj
      apply List.ext_getElem?
      intro n
      by_cases hn : n = i
      · subst hn
        by_cases hl : n < σ.length
        · rw [List.getElem?_set_self (by rw [wipe_length, List.length_set]; exact hl), List.getElem?_set_self (by rw [wipe_length]; exact hl)]
        · rw [List.getElem?_eq_none (by rw [List.length_set, wipe_length, List.length_set]; omega), List.getElem?_eq_none (by rw [List.length_set, wipe_length]; omega)]
      · rw [List.getElem?_set_ne (Ne.symm hn), List.getElem?_set_ne (Ne.symm hn)]
        have key : ∀ js : List Nat, (wipe (σ.set i v) js)[n]? = (wipe σ js)[n]? := by
          intro js
          induction js with
          | nil => show (σ.set i v)[n]? = σ[n]?; rw [List.getElem?_set_ne (Ne.symm hn)]
          | cons q js ih =>
            show ((wipe (σ.set i v) js).set q none)[n]? = ((wipe σ js).set q none)[n]?
            by_cases hq : q = n
            · subst hq
              by_cases hl : q < σ.length
              · rw [List.getElem?_set_self (by rw [wipe_length, List.length_set]; exact hl), List.getElem?_set_self (by rw [wipe_length]; exact hl)]
              · rw [List.getElem?_eq_none (by rw [List.length_set, wipe_length, List.length_set]; omega), List.getElem?_eq_none (by rw [List.length_set, wipe_length]; omega)]
            · rw [List.getElem?_set_ne hq, List.getElem?_set_ne hq]; exact ih
        exact key is
  | [], h => by cases h
theorem setAll_len : ∀ {is : List Nat} {ds : List D} {ρ ρ' : Env}, setAll is ds ρ = some ρ' → ds.length = is.length
  | [], [], _, _, _ => rfl
  | i :: is, d :: ds, ρ, ρ', e => by
    rw [List.length_cons, List.length_cons, setAll_len (is := is) (ds := ds) e]
  | [], _ :: _, _, _, e => by cases e
  | _ :: _, [], _, _, e => by cases e
section
variable {X : Cx} {W : WX} {ft : FT} {pos p : Pos} {l r m tg : Expr} {a b c : E} {es rest : List Expr} {el : EL}
theorem src1 {a : E} {f : D → Sto → R (List D)} {K : Frg} {σ : St} {H : Hp} {μ : Mu} {Ω : Sto} {ρ : Env} {Q : It → Hp → Prop} (at_ : At K σ H μ Ω ρ) (p : Post K (rI K) W σ H μ Ω ((evE ft a ρ Ω).bind f) Q) :
    TEv K W ft a σ H fun v H1 => ∃ μ1 Ω1 x, At K σ H1 μ1 Ω1 ρ ∧ Rep K (Fz H1 μ1 Ω1) μ1 Ω1.length x v ∧ Post K (rI K) W σ H1 μ1 Ω1 (f x Ω1) Q := by
  refine ⟨μ, Ω, ρ, at_, (Post.bind (rel := rD K) p).mono ?_⟩
  rintro v H1 ⟨μ1, Ω1, x, _, ex1, r1, p1⟩
  exact ⟨μ1, Ω1, x, at_.ext ex1, r1, p1⟩
theorem optI {K : Frg} {σ : St} {H : Hp} {μ : Mu} {Ω : Sto} {o : Option (List D)} {Q : It → Hp → Prop} (p : Post K (rI K) W σ H μ Ω (opt o Ω) Q) : ∃ xs, o = some xs ∧ ∀ J H', Ext K H μ Ω H' μ Ω → ItRep K J H' μ Ω xs → Q J H' := by
  cases o with
  | none => exact False.elim p
  | some xs => exact ⟨xs, rfl, fun J H' ex h => p J H' μ ex h⟩
theorem src_case {K : Frg} {σ : St} {H : Hp} {a : E} {f : D → Option (List D)} {R : It → Hp → Prop} (h : ∃ μ Ω ρ, At K σ H μ Ω ρ ∧ Post K (rI K) W σ H μ Ω ((evE ft a ρ Ω).bind fun d Ω => opt (f d) Ω) R) :
    (∀ Q, TEv K W ft a σ H Q) ∨ ∃ x xs, f x = some xs ∧ ∀ Q : VK, (∀ v H1 μ1 Ω1, Wf K H1 μ1 Ω1 → Rep K (Fz H1 μ1 Ω1) μ1 Ω1.length x v → (∀ J, ItRep K J H1 μ1 Ω1 xs → R J H1) → Q v H1) → TEv K W ft a σ H Q := by
  obtain ⟨μ, Ω, ρ, at_, p⟩ := h
  cases e : evE ft a ρ Ω with
  | bad => rw [e] at p; exact False.elim p
  | ex x Ω1 => exact .inl fun Q => ⟨μ, Ω, ρ, at_, by rw [e] at p ⊢; exact p⟩
  | ok x Ω1 =>
    rw [e] at p
    have p : Post K (rI K) W σ H μ Ω (opt (f x) Ω1) R := p
    cases e2 : f x with
    | none => rw [e2] at p; exact False.elim p
    | some xs =>
      rw [e2] at p
      refine .inr ⟨x, xs, e2, fun Q hq => ⟨μ, Ω, ρ, at_, ?_⟩⟩
      rw [e]
      exact fun v H1 μ1 ex1 r1 => hq v H1 μ1 Ω1 ex1.wf r1 fun J hJ => p J H1 μ1 ex1 hJ
theorem i_val {σ : St} {H : Hp} {R : It → Hp → Prop} (h : TIv X.K W ft (.val a) σ H R) :
    iList X.K (TEv X.K W ft a) σ H R ∨ iTup X.K (TEv X.K W ft a) σ H R ∨ iKeys (TEv X.K W ft a) σ H R ∨ iStr (TEv X.K W ft a) σ H R := by
  rcases src_case h with h | ⟨x, xs, e, k⟩
  · exact .inl (h _)
  have seq : seqD x = some xs → iList X.K (TEv X.K W ft a) σ H R ∨ iTup X.K (TEv X.K W ft a) σ H R ∨ iKeys (TEv X.K W ft a) σ H R ∨ iStr (TEv X.K W ft a) σ H R := fun es => by
    have both : (∀ {K : Frg} {H μ Ω} q, Rep K (Fz H μ Ω) μ Ω.length x (.ref q) → ∃ vs, Reps K (Fz H μ Ω) μ Ω.length xs vs ∧ SqL K H q vs) ∨ (∀ {K : Frg} {H μ Ω} q, Rep K (Fz H μ Ω) μ Ω.length x (.ref q) → ∃ vs, Reps K (Fz H μ Ω) μ Ω.length xs vs ∧ SqT K H q vs) := by
      cases x with
      | lst ys => cases es; exact .inl fun _ h => lst_sq h
      | scr ys => cases es; exact .inl fun _ h => scr_sq h
      | tup ys => cases es; exact .inr fun _ h => tup_sq h
      | e0 => cases es; exact .inr fun _ h => e0_sq h
      | _ => cases es
    rcases both with hl | ht
    · refine .inl (k _ fun v H1 μ1 Ω1 w r1 q => ?_)
      obtain ⟨b, rfl, _⟩ := seq_kind r1 es
      obtain ⟨vs, _, sq⟩ := hl b r1
      exact ⟨b, rfl, ⟨vs, sq⟩, q _ (it_list r1 es fun _ _ _ h => hl b h)⟩
    · refine .inr (.inl (k _ fun v H1 μ1 Ω1 w r1 q => ?_))
      obtain ⟨b, rfl, _⟩ := seq_kind r1 es
      obtain ⟨vs, _, sq⟩ := ht b r1
      exact ⟨b, rfl, ⟨vs, sq⟩, q _ (it_tup r1 es fun _ _ _ h => ht b h)⟩
  cases x with
  | lst ys => exact seq e
  | tup ys => exact seq e
  | e0 => exact seq e
  | scr ys => exact seq e
  | dk kvs =>
    cases e
    refine .inr (.inr (.inl (k _ fun v H1 μ1 Ω1 w r1 q => ?_)))
    simp only [Rep] at r1
    obtain ⟨b, ws, od, rfl, rk, hq⟩ := r1
    exact ⟨b, od, rfl, .inl ⟨ws, Fz.le hq, q _ (it_keys rk hq)⟩⟩
  | dt kvs =>
    have e : (if kvs.all (fun kv => decide (kv.1.length ≤ big)) = true then some (kvs.map fun kv => D.tup (kv.1.map kD)) else none) = some xs := e
    obtain ⟨hz, rfl⟩ := opt_if e
    refine .inr (.inr (.inl (k _ fun v H1 μ1 Ω1 w r1 q => ?_)))
    simp only [Rep] at r1
    obtain ⟨b, ws, od, rfl, rk, hq⟩ := r1
    exact ⟨b, od, rfl, .inr ⟨ws, Fz.le hq, q _ (it_keysT (fun kv hm => of_decide_eq_true (List.all_eq_true.mp hz kv hm)) rk hq)⟩⟩
  | str s =>
    cases e
    refine .inr (.inr (.inr (k _ fun v H1 μ1 Ω1 w r1 q => ?_)))
    simp only [Rep] at r1
    exact ⟨s, r1, q _ it_str⟩
  | _ => cases e
theorem s_val (ha : PE X l (TEv X.K W ft a)) : PI X tg l (TIv X.K W ft (.val a)) := ((pi_list ha).or ((pi_tup ha).or ((pi_keys ha).or (pi_str ha)))).imp fun _ _ _ h => i_val h
theorem s_zip {tes : List Expr} {kk : Nat} {tpos : Pos} (hg : Gl X "zip") (hm : X.mg "zip" = none) (hp : plainE l = true) (hq : plainE r = true) (ha : PE X l (TEv X.K W ft a)) (hb : PE X r (TEv X.K W ft b)) : PI X (.Tuple tes kk tpos) (.Call (.Name "zip" p) [l, r] [] pos) (TIv X.K W ft (.zip a b)) := by
  refine (RZ.pi_zipA hg hm (pa_cons ha (pa_cons hb pa_nil (star_cons hq)) (star_cons hp)) (star_cons hp) (back_any (by simp [hq]))).imp fun σ H R ⟨μ, Ω, ρ, at_, p⟩ => ?_
  obtain ⟨μ0, Ω0, ρ0, a0, p0⟩ := src1 at_ p
  refine ⟨μ0, Ω0, ρ0, a0, p0.mono ?_⟩
  rintro v H1 ⟨μ1, Ω1, x, a1, r1, p1⟩
  refine ⟨μ1, Ω1, ρ, a1, (Post.bind (rel := rD X.K) p1).mono ?_⟩
  rintro u H2 ⟨μ2, Ω2, y, _, ex2, r2, p2⟩
  obtain ⟨xs, e, k⟩ := optI p2
  have r1' := Rep.tr ex2.tr _ _ r1
  have one : ∀ {d : D} {v : V} {zs : List D}, Rep X.K (Fz H2 μ2 Ω2) μ2 Ω2.length d v → lstD d = some zs → ∃ b, v = .ref b ∧ ∀ H' μ' Ω', Rep X.K (Fz H' μ' Ω') μ' Ω'.length d (.ref b) → ∃ vs, Reps X.K (Fz H' μ' Ω') μ' Ω'.length zs vs ∧ SqL X.K H' b vs := fun {d v zs} rd ed => by
    cases d with
    | lst ys => cases ed; obtain ⟨p, vs, e1, _⟩ := view0 rd; exact ⟨p, e1, fun _ _ _ h => lst_sq h⟩
    | scr ys => cases ed; obtain ⟨p, e1, _⟩ := view0 rd; exact ⟨p, e1, fun _ _ _ h => scr_sq h⟩
    | _ => cases ed
  have two : ∀ {d : D} {v : V} {zs : List D}, Rep X.K (Fz H2 μ2 Ω2) μ2 Ω2.length d v → tupD d = some zs → ∃ b, v = .ref b ∧ ∀ H' μ' Ω', Rep X.K (Fz H' μ' Ω') μ' Ω'.length d (.ref b) → ∃ vs, Reps X.K (Fz H' μ' Ω') μ' Ω'.length zs vs ∧ SqT X.K H' b vs := fun {d v zs} rd ed => by
    cases d with
    | tup ys => cases ed; obtain ⟨p, vs, e1, _⟩ := view0 rd; exact ⟨p, e1, fun _ _ _ h => tup_sq h⟩
    | e0 => cases ed; obtain ⟨p, e1, _⟩ := view0 rd; exact ⟨p, e1, fun _ _ _ h => e0_sq h⟩
    | _ => cases ed
  have fin2 : ∀ {zs ys : List D}, tupD x = some zs → tupD y = some ys → xs = List.zipWith (fun x y => .tup [x, y]) zs ys → ∃ a b xs ys, [v, u] = [V.ref a, V.ref b] ∧ ((SqL X.K H2 a xs ∧ SqL X.K H2 b ys ∧ R (Itz X.K a b) H2) ∨ (SqT X.K H2 a xs ∧ SqT X.K H2 b ys ∧ R (RZ.ItzT X.K a b) H2)) := fun {zs ys} e1 e2 e3 => by
    obtain ⟨b1, rfl, l1⟩ := two r1' e1
    obtain ⟨b2, rfl, l2⟩ := two r2 e2
    obtain ⟨vs, _, s1⟩ := l1 _ _ _ r1'
    obtain ⟨us, _, s2⟩ := l2 _ _ _ r2
    subst e3
    exact ⟨b1, b2, vs, us, rfl, .inr ⟨s1, s2, k _ _ (Ext.refl ex2.wf) (it_zipT r1' r2 l1 l2)⟩⟩
  unfold zipD2 at e
  cases e1 : lstD x with
  | none =>
    rw [e1] at e
    simp only at e
    cases e3 : tupD x with
    | none => rw [e3] at e; cases e
    | some zs =>
      cases e4 : tupD y with
      | none => rw [e3, e4] at e; cases e
      | some ys =>
        rw [e3, e4] at e
        exact fin2 e3 e4 (Option.some.inj e).symm
  | some zs =>
    cases e2 : lstD y with
    | none =>
      rw [e1, e2] at e
      simp only at e
      cases e3 : tupD x with
      | none => rw [e3] at e; cases e
      | some zs =>
        cases e4 : tupD y with
        | none => rw [e3, e4] at e; cases e
        | some ys =>
          rw [e3, e4] at e
          exact fin2 e3 e4 (Option.some.inj e).symm
    | some ys =>
      rw [e1, e2] at e
      cases e
      obtain ⟨b1, rfl, l1⟩ := one r1' e1
      obtain ⟨b2, rfl, l2⟩ := one r2 e2
      obtain ⟨vs, _, s1⟩ := l1 _ _ _ r1'
      obtain ⟨us, _, s2⟩ := l2 _ _ _ r2
      exact ⟨b1, b2, vs, us, rfl, .inl ⟨s1, s2, k _ _ (Ext.refl ex2.wf) (it_zip r1' r2 l1 l2)⟩⟩
theorem inR_of {i : Int} (h : inR i = true) : -(2 ^ 62) ≤ i ∧ i < 2 ^ 62 := by
  cases i with
  | ofNat n => have := of_decide_eq_true h; simp only [Int.ofNat_eq_natCast]; omega
  | negSucc n => have := of_decide_eq_true h; rw [Int.negSucc_eq]; omega
theorem s_rng (hg : Gl X "range") (hm : X.mg "range" = none) (hp : plainE l = true) (ha : PE X l (TEv X.K W ft a)) : PI X tg (.Call (.Name "range" p) [l] [] pos) (TIv X.K W ft (.rng a)) := by
  refine (pi_range1 hg hm (pa_cons ha pa_nil (star_cons hp)) (star_cons hp)).imp fun σ H R ⟨μ, Ω, ρ, at_, p⟩ => ?_
  obtain ⟨μ0, Ω0, ρ0, a0, p0⟩ := src1 at_ p
  refine ⟨μ0, Ω0, ρ0, a0, p0.mono ?_⟩
  rintro v H1 ⟨μ1, Ω1, x, a1, r1, p1⟩
  cases x with
  | int j =>
    by_cases hj : inR j = true
    · simp only [if_pos hj] at p1
      have e := view_int r1
      subst e
      refine ⟨j, rfl, (inR_of hj).1, (inR_of hj).2, p1 _ _ _ (Ext.refl a1.wf) ?_⟩
      have := it_rng (K := X.K) (H := H1) (μ := μ1) (Ω := Ω1) (lo := 0) (n := j.toNat)
      simpa [rI, rngD] using this
    · simp only [if_neg hj] at p1; exact False.elim p1
  | _ => exact False.elim p1
theorem pgs_tp (hN : X.N.Nodup) : ∀ {is : List Nat} {es : List Expr}, Paired (fun i e => ∃ x q, e = Expr.Name x q ∧ TgN X i x) is es → PGs X es (gT is) ∧ (assignEach es X.env).length = is.length ∧ (assignEach es X.env).findIdx? (·.1) = none
  | _, _, .nil => ⟨pgs_nil, rfl, rfl⟩
  | i :: is, _, .cons ⟨x, q, e, h1, h2, h3⟩ r => by
    subst e
    obtain ⟨a1, a2, a3⟩ := pgs_tp hN r
    refine ⟨pgs_cons (pg_name hN h1 h2 h3) a1 rfl, ?_, ?_⟩
    · show (assignEach _ X.env).length + 1 = _
      rw [a2]; rfl
    · show List.findIdx? _ ((false, _) :: assignEach _ X.env) = none
      rw [List.findIdx?_cons]
      simp only [Bool.false_eq_true, if_false]
      rw [a3]
      rfl
theorem pg_tl {es : List Expr} {k : Nat} {t : TGs} {n : Nat} {pos : Pos} (hc : X.calm = true) (h : PGs X es t) (hn : (assignEach es X.env).length = n) (hst : (assignEach es X.env).findIdx? (·.1) = none) : PG X (.Tuple es k pos) (gTl X.K n t) := by
  refine ⟨fun pins s σ H v u Q I r hw => ?_⟩
  rcases hw with hw | hw
  · exact (pg_tup hc h hn hst).run pins s σ H v u Q I r hw
  · exact (pg_lst hc h hn hst).run pins s σ H v u Q I r hw
theorem s_tg (hc : X.calm = true) (hN : X.N.Nodup) {t : Tg} {e : Expr} (h : TgOk X t e) : PG X e (TGv X.K t) := by
  cases h with
  | nm h => exact pg_name hN h.1 h.2.1 h.2.2
  | tp h =>
    obtain ⟨a1, a2, a3⟩ := pgs_tp hN h
    exact pg_tl hc a1 a2 a3
theorem set_tp {K : Frg} {H : Hp} {μ : Mu} {Ω : Sto} {Q : St → Hp → Prop} : ∀ {is : List Nat} {ds : List D} {vs : List V} {ρ ρ' : Env} {σ : St}, setAll is ds ρ = some ρ' → Reps K (Fz H μ Ω) μ Ω.length ds vs → REnv K (Fz H μ Ω) μ Ω.length ρ σ →
    (∀ σ', REnv K (Fz H μ Ω) μ Ω.length ρ' σ' → (∀ is', (∀ i ∈ is, i ∈ is') → wipe σ' is' = wipe σ is') → Q σ' H) → gT is vs σ H Q
  | [], [], vs, ρ, ρ', σ, e, r, re, k => by
    cases e
    simp only [Reps] at r
    exact ⟨r, k σ re fun _ _ => rfl⟩
  | i :: is, d :: ds, vs, ρ, ρ', σ, e, r, re, k => by
    simp only [Reps] at r
    obtain ⟨v, ws, rfl, rv, rs⟩ := r
    refine ⟨v, ws, rfl, ?_⟩
    refine set_tp (is := is) (ds := ds) e rs (re.set i rv) fun σ' re' hw => k σ' re' fun is' his => ?_
    rw [hw is' fun j hj => his j (List.mem_cons_of_mem _ hj)]
    exact wipe_set (his i (List.mem_cons_self ..))
  | [], _ :: _, _, _, _, _, e, _, _, _ => by cases e
  | _ :: _, [], _, _, _, _, e, _, _, _ => by cases e
theorem bind_tg {K : Frg} {H : Hp} {μ : Mu} {Ω : Sto} {t : Tg} {d : D} {v : V} {ρ ρ' : Env} {σ : St} {Q : St → Hp → Prop} (e : bindT t d ρ = some ρ') (r : Rep K (Fz H μ Ω) μ Ω.length d v) (re : REnv K (Fz H μ Ω) μ Ω.length ρ σ)
    (k : ∀ σ', REnv K (Fz H μ Ω) μ Ω.length ρ' σ' → (∀ is', (∀ i ∈ t.all, i ∈ is') → wipe σ' is' = wipe σ is') → Q σ' H) : TGv K t v σ H Q := by
  cases t with
  | nm i =>
    cases e
    exact k _ (re.set i r) fun is' h => wipe_set (h i (List.mem_singleton.mpr rfl))
  | tp is =>
    cases d with
    | tup ds =>
      obtain ⟨p, vs, rfl, rs, _, c, _⟩ := view0 r
      refine .inl ⟨p, vs, rfl, c, ?_, set_tp e rs re k⟩
      rw [rs.length]
      exact setAll_len e
    | lst ds =>
      obtain ⟨p, vs, rfl, rs, _, c⟩ := view0 r
      refine .inr ⟨p, vs, rfl, .inl (.inl c), ?_, set_tp e rs re k⟩
      rw [rs.length]
      exact setAll_len e
    | _ => cases e
end
end Rf
end
section
namespace Rf
open PySem L2
theorem wipe_wipe {σ : St} (vs : List Nat) : wipe (wipe σ vs) vs = wipe σ vs := by
  apply List.ext_getElem?
  intro n
  by_cases h : n ∈ vs
  · have key : ∀ (τ : St) (ws : List Nat), τ.length = σ.length → n ∈ ws → (wipe τ ws)[n]? = if n < σ.length then some none else none := by
      intro τ ws hl
      induction ws with
      | nil => intro h; cases h
      | cons q ws ih =>
        intro h
        show ((wipe τ ws).set q none)[n]? = _
        by_cases hq : q = n
        · subst hq
          by_cases hl2 : q < σ.length
          · rw [List.getElem?_set_self (by rw [wipe_length, hl]; exact hl2), if_pos hl2]
          · rw [List.getElem?_eq_none (by rw [List.length_set, wipe_length, hl]; omega), if_neg hl2]
        · rw [List.getElem?_set_ne hq]
          refine ih ?_
          rcases List.mem_cons.mp h with e | e
          · exact absurd e.symm hq
          · exact e
    rw [key _ vs (wipe_length _ _) h, key σ vs rfl h]
  · rw [wipe_out h]
section
variable {K : Frg} {W : WX} {ft : FT} {σ : St} {H : Hp} {μ : Mu} {Ω : Sto} {ρ : Env}
theorem lc_turn {own : List Nat} {t : Tg} {c : EO} {e : E} {d : D} {v : V} {r : R (Option D)} {S T : Hp → Prop} {N : V → Hp → Prop} (ho : ∀ i ∈ t.all, i ∈ own) (re : REnv K (Fz H μ Ω) μ Ω.length ρ σ) (w : Wf K H μ Ω) (rd : Rep K (Fz H μ Ω) μ Ω.length d v)
    (hr : (lcT ft own t c e ρ d Ω).nx ≠ .bad)
    (hN : ∀ y Ω4, lcT ft own t c e ρ d Ω = .ok (some y) Ω4 → ∀ u H4 μ4, Ext K H μ Ω H4 μ4 Ω4 → Rep K (Fz H4 μ4 Ω4) μ4 Ω4.length y u → N u H4)
    (hT : ∀ Ω3, lcT ft own t c e ρ d Ω = .ok none Ω3 → ∀ H3 μ3, Ext K H μ Ω H3 μ3 Ω3 → T H3) :
    TGv K t v (wipe σ own) H fun σ2 H2 => wipe σ2 own = wipe σ own ∧ TCv K WF ft c σ2 H2 fun b H3 => if b = true then TEv K WF ft e σ2 H3 N else T H3 := by
  unfold lcT at hr hN hT
  cases eb : bindT t d (wipeD ρ own) with
  | none => rw [eb] at hr; exact absurd rfl hr
  | some ρ2 =>
    rw [eb] at hr hN hT
    simp only at hr hN hT
    refine bind_tg eb rd (re.wipe own) fun σ2 re2 hw => ⟨?_, μ, Ω, ρ2, ⟨w, re2⟩, ?_⟩
    · rw [hw own ho, wipe_wipe]
    · cases ec : evC ft c ρ2 Ω with
      | bad => rw [ec] at hr; exact absurd rfl hr
      | ex x Ω3 => rw [ec] at hr; exact absurd rfl hr
      | ok b Ω3 =>
        rw [ec] at hr hN hT
        intro b' H3 μ3 ex3 hb
        have hb : b = b' := hb
        subst hb
        cases b with
        | false => exact hT Ω3 rfl H3 μ3 ex3
        | true =>
          show TEv K WF ft e σ2 H3 N
          refine ⟨μ3, Ω3, ρ2, ⟨ex3.wf, re2.tr ex3.tr⟩, ?_⟩
          have hr : ((evE ft e ρ2 Ω3).bind fun y Ω => R.ok (some y) Ω).nx ≠ .bad := hr
          have hN : ∀ y Ω4, ((evE ft e ρ2 Ω3).bind fun y Ω => R.ok (some y) Ω) = .ok (some y) Ω4 → ∀ u H4 μ4, Ext K H μ Ω H4 μ4 Ω4 → Rep K (Fz H4 μ4 Ω4) μ4 Ω4.length y u → N u H4 := hN
          cases ee : evE ft e ρ2 Ω3 with
          | bad => rw [ee] at hr; exact absurd rfl hr
          | ex x Ω4 => rw [ee] at hr; exact absurd rfl hr
          | ok y Ω4 =>
            rw [ee] at hN
            exact fun u H4 μ4 ex4 r4 => hN y Ω4 rfl u H4 μ4 (ex3.trans ex4) r4
theorem hid_at {D : Addr} {o : HO} {H1 H2 : Hp} {μ1 μ2 : Mu} {Ω1 Ω2 : Sto} (ex : Ext K (upd H1 D o) (μ1.hide D) Ω1 H2 μ2 Ω2) : H2 D = some o := by
  rw [ex.hkp D (List.mem_cons_self ..), upd_same]
theorem hid_mem {D : Addr} {μ1 : Mu} : D ∈ (μ1.hide D).hid := List.mem_cons_self ..
end
section
variable {X : Cx} {W : WX} {ft : FT} {pos p : Pos} {l r m tg elt iter : Expr} {a b e : E} {ifs : List Expr} {scope : Scope} {own : List (Str × Nat)} {t : Tg} {sr : Sr} {c : EO}
theorem i_lcG {vs : List Nat} {σ : St} {H : Hp} {Q : VK} {F : List Rf.D → Sto → R Rf.D} (ho : ∀ i ∈ t.all, i ∈ vs) (h : ∃ μ Ω ρ, At X.K σ H μ Ω ρ ∧ Post X.K (rD X.K) W σ H μ Ω ((evSr ft sr ρ Ω).bind fun xs Ω => (lcD (lcT ft vs t c e ρ) xs [] Ω).bind F) Q)
    (hend : ∀ {H1 H2 : Hp} {μ1 μ2 : Mu} {Ω1 Ω2 : Sto} {D : Addr} {acc : List Rf.D} {us : List V}, Wf X.K H1 μ1 Ω1 → H1 D = none → Ext X.K (upd H1 D (.lst us)) (μ1.hide D) Ω1 H2 μ2 Ω2 → Reps X.K (Fz H2 μ2 Ω2) μ2 Ω2.length acc us → us.length ≤ sizeLine →
      Post X.K (rD X.K) W σ H1 μ1 Ω1 (F acc Ω2) Q → Q (.ref D) H2) : tLc (TIv X.K W ft sr) (TGv X.K t) (TCv X.K WF ft c) (TEv X.K WF ft e) vs σ H Q := by
  obtain ⟨μ, Ω, ρ, at_, p⟩ := h
  refine ⟨μ, Ω, ρ, at_, (Post.bind (rel := rI X.K) p).mono ?_⟩
  rintro J H1 ⟨μ1, Ω1, xs, _, ex1, rJ, p1⟩
  have p1 : Post X.K (rD X.K) W σ H1 μ1 Ω1 ((lcD (lcT ft vs t c e ρ) xs [] Ω1).bind F) Q := p1
  intro D hD
  refine ⟨fun i m H2 => m = xs.length - i ∧ i ≤ xs.length ∧ ∃ μ2 Ω2 acc us, Ext X.K (upd H1 D (.lst us)) (μ1.hide D) Ω1 H2 μ2 Ω2 ∧ Reps X.K (Fz H2 μ2 Ω2) μ2 Ω2.length acc us ∧ us.length ≤ sizeLine ∧
    Post X.K (rD X.K) W σ H1 μ1 Ω1 ((lcD (lcT ft vs t c e ρ) (xs.drop i) acc Ω2).bind F) Q, ?_, ?_⟩
  · exact ⟨_, rfl, Nat.zero_le _, μ1.hide D, Ω1, [], [], Ext.refl (ex1.wf.hide hD trivial), Reps.nil, Nat.zero_le _, p1⟩
  · rintro i m H2 ⟨hm, hi, μ2, Ω2, acc, us, ex2, ra, hz, p2⟩
    have hDH := hid_at ex2
    have lat := Lat.hid ex1.wf hD ex2
    by_cases hlt : i < xs.length
    · have hdr : xs.drop i = xs[i] :: xs.drop (i + 1) := List.drop_eq_getElem_cons hlt
      rw [hdr] at p2
      have hd : xs[i]? = some xs[i] := List.getElem?_eq_getElem hlt
      generalize xs[i] = d at p2 hd
      refine .inr ⟨rJ.go i H2 μ2 Ω2 lat hlt, fun H' => ∃ μ3 Ω3 acc' us', Ext X.K (upd H1 D (.lst us')) (μ1.hide D) Ω1 H' μ3 Ω3 ∧ Reps X.K (Fz H' μ3 Ω3) μ3 Ω3.length acc' us' ∧ us'.length ≤ sizeLine ∧
        Post X.K (rD X.K) W σ H1 μ1 Ω1 ((lcD (lcT ft vs t c e ρ) (xs.drop (i + 1)) acc' Ω3).bind F) Q, fun H' hH' => ⟨xs.length - (i + 1), by omega, rfl, hlt, hH'⟩, ?_⟩
      intro x H' hy
      obtain ⟨_, ex3, rx⟩ := rJ.yld i H2 μ2 Ω2 x H' d lat hd hy
      have re : REnv X.K (Fz H' μ2 Ω2) μ2 Ω2.length ρ σ := ((at_.env.tr ex1.tr).tr lat.tr).tr ex3.tr
      have p2 : Post X.K (rD X.K) W σ H1 μ1 Ω1 (((lcT ft vs t c e ρ d Ω2).nx.bind fun o Ω1 => match o with
        | none => lcD (lcT ft vs t c e ρ) (xs.drop (i + 1)) acc Ω1
        | some d => if acc.length < big then lcD (lcT ft vs t c e ρ) (xs.drop (i + 1)) (acc ++ [d]) Ω1 else .bad).bind F) Q := p2
      have hr : (lcT ft vs t c e ρ d Ω2).nx ≠ .bad := fun z => by rw [z] at p2; exact p2
      refine lc_turn (S := fun _ => True) (r := .bad) ho re ex3.wf rx hr (fun y Ω4 ey u H4 μ4 ex4 ry => ?_) (fun Ω3 ey H3 μ3 ex4 => ?_)
      · rw [ey] at p2
        have p2 : Post X.K (rD X.K) W σ H1 μ1 Ω1 ((if acc.length < big then lcD (lcT ft vs t c e ρ) (xs.drop (i + 1)) (acc ++ [y]) Ω4 else .bad).bind F) Q := p2
        by_cases hb : acc.length < big
        · rw [if_pos hb] at p2
          have ex5 := (ex2.trans ex3).trans ex4
          have hb' : us.length < sizeLine := by rw [ra.length, ← big_eq]; exact hb
          refine ⟨us, hid_at ex5, hb', μ4, Ω4, acc ++ [y], us ++ [u], ex5.rehide hid_mem trivial, ?_, by rw [List.length_append, List.length_singleton]; exact hb', p2⟩
          rw [Fz.hidden (by rw [ex5.hid]; exact hid_mem)]
          exact (Reps.tr (ex3.trans ex4).tr _ _ ra).append (Reps.one ry)
        · rw [if_neg hb] at p2; exact False.elim p2
      · rw [ey] at p2
        exact ⟨μ3, Ω3, acc, us, (ex2.trans ex3).trans ex4, Reps.tr (ex3.trans ex4).tr _ _ ra, hz, p2⟩
    · have hie : i = xs.length := by omega
      subst hie
      rw [List.drop_length] at p2
      refine .inl ⟨rJ.stop _ H2 μ2 Ω2 lat (Nat.le_refl _), ?_⟩
      exact hend ex1.wf hD ex2 ra hz p2
theorem i_lc {vs : List Nat} {σ : St} {H : Hp} {Q : VK} (ho : ∀ i ∈ t.all, i ∈ vs) (h : TEv X.K W ft (.lc vs t sr c e) σ H Q) : tLc (TIv X.K W ft sr) (TGv X.K t) (TCv X.K WF ft c) (TEv X.K WF ft e) vs σ H Q := by
  refine i_lcG (F := fun ds Ω => .ok (.lst ds) Ω) ho h fun {H1 H2 μ1 μ2 Ω1 Ω2 D acc us} w hD ex2 ra hz p2 => ?_
  have ex3 := Ext.unhide (o' := .lst us) w hD ex2
  have hf := Fz.unhide (o' := .lst us) w hD ex2
  have tr := Tr.unhide (o' := .lst us) w hD ex2
  rw [upd_id (hid_at ex2)] at ex3 hf tr
  refine p2 _ _ _ ex3 ?_
  simp only [rD, Rep]
  exact ⟨D, us, rfl, Reps.tr tr _ _ ra, hz, hf⟩
theorem i_newc {vs : List Nat} {σ : St} {H : Hp} {Q : VK} (ho : ∀ i ∈ t.all, i ∈ vs) (h : TEv X.K W ft (.newc vs t sr c e) σ H Q) : tLc (TIv X.K W ft sr) (TGv X.K t) (TCv X.K WF ft c) (TEv X.K WF ft e) vs σ H Q := by
  refine i_lcG (F := fun ds Ω => .ok (.hd Ω.length) (Ω ++ [Ob.lst ds])) ho h fun {H1 H2 μ1 μ2 Ω1 Ω2 D acc us} w hD ex2 ra hz p2 => ?_
  have ex3 := Ext.hidpush (ob := .lst acc) w hD ex2 (hid_at ex2) ⟨us, rfl, ra, hz⟩
  refine p2 _ _ _ ex3 ?_
  simp only [rD, Rep]
  exact ⟨by rw [List.length_append, List.length_singleton]; omega, by rw [pushM_eq]⟩
theorem s_lc (hc : X.calm = true) (hN : X.N.Nodup) (hi : PI X tg iter (TIv X.K W ft sr)) (ok : BlkOk X.N X.env.scope scope own) (ho : ∀ i ∈ t.all, i ∈ own.map (·.2)) (hg : Blk X scope fun Y => PG Y tg (TGv X.K t)) (ht : Blk X scope fun Y => PTs Y ifs (TCv X.K WF ft c))
    (he : Blk X scope fun Y => PE Y elt (TEv X.K WF ft e)) (hs : ∀ x, foldedSetIterable iter X.env x = pure x) : PE X (.ListComp elt [⟨tg, iter, ifs, 0⟩] scope pos) (TEv X.K W ft (.lc (own.map (·.2)) t sr c e)) :=
  (pe_lc hc hN hi ok hg ht he hs).imp fun _ _ _ h => i_lc ho h
theorem s_newc (hc : X.calm = true) (hN : X.N.Nodup) (hi : PI X tg iter (TIv X.K W ft sr)) (ok : BlkOk X.N X.env.scope scope own) (ho : ∀ i ∈ t.all, i ∈ own.map (·.2)) (hg : Blk X scope fun Y => PG Y tg (TGv X.K t)) (ht : Blk X scope fun Y => PTs Y ifs (TCv X.K WF ft c))
    (he : Blk X scope fun Y => PE Y elt (TEv X.K WF ft e)) (hs : ∀ x, foldedSetIterable iter X.env x = pure x) : PE X (.ListComp elt [⟨tg, iter, ifs, 0⟩] scope pos) (TEv X.K W ft (.newc (own.map (·.2)) t sr c e)) :=
  (pe_lc hc hN hi ok hg ht he hs).imp fun _ _ _ h => i_newc ho h
theorem s_setLc {i : Nat} {y : Str} {py spos : Pos} (hc : X.calm = true) (hN : X.N.Nodup) (hy : X.N[i]? = some y) (hyl : X.env.scope.names.lookup y = some .local) (hsw : swapsWith (.ListComp elt [⟨tg, iter, ifs, 0⟩] scope pos) (some (.Name y py)) spos.line X.env = pure true)
    (hi : PI X tg iter (TIv X.K W ft sr)) (ok : BlkOk X.N X.env.scope scope own) (ho : ∀ i ∈ t.all, i ∈ own.map (·.2)) (hg : Blk X scope fun Y => PG Y tg (TGv X.K t)) (ht : Blk X scope fun Y => PTs Y ifs (TCv X.K WF ft c))
    (he : Blk X scope fun Y => PE Y elt (TEv X.K WF ft e)) (hs : ∀ x, foldedSetIterable iter X.env x = pure x) : PS X (.Assign [.Name y py] (.ListComp elt [⟨tg, iter, ifs, 0⟩] scope pos) spos) (tAsg (TEv X.K W ft (.lc (own.map (·.2)) t sr c e)) (gName i)) :=
  (ps_setLc hc hN hy hyl hsw hi ok hg ht he hs).imp fun _ _ _ h => i_lc ho h
theorem s_setNewc {i : Nat} {y : Str} {py spos : Pos} (hc : X.calm = true) (hN : X.N.Nodup) (hy : X.N[i]? = some y) (hyl : X.env.scope.names.lookup y = some .local) (hsw : swapsWith (.ListComp elt [⟨tg, iter, ifs, 0⟩] scope pos) (some (.Name y py)) spos.line X.env = pure true)
    (hi : PI X tg iter (TIv X.K W ft sr)) (ok : BlkOk X.N X.env.scope scope own) (ho : ∀ i ∈ t.all, i ∈ own.map (·.2)) (hg : Blk X scope fun Y => PG Y tg (TGv X.K t)) (ht : Blk X scope fun Y => PTs Y ifs (TCv X.K WF ft c))
    (he : Blk X scope fun Y => PE Y elt (TEv X.K WF ft e)) (hs : ∀ x, foldedSetIterable iter X.env x = pure x) : PS X (.Assign [.Name y py] (.ListComp elt [⟨tg, iter, ifs, 0⟩] scope pos) spos) (tAsg (TEv X.K W ft (.newc (own.map (·.2)) t sr c e)) (gName i)) :=
  (ps_setLc hc hN hy hyl hsw hi ok hg ht he hs).imp fun _ _ _ h => i_newc ho h
end
end Rf
end
section
namespace Rf
open PySem L2
section
variable {K : Frg} {W : WX} {ft : FT} {σ : St} {H : Hp} {μ : Mu} {Ω : Sto} {ρ : Env}
end
section
variable {X : Cx} {W : WX} {ft : FT} {pos p : Pos} {l r m tg elt kx vx iter tg1 iter1 : Expr} {a b e k v : E} {ifs : List Expr} {scope : Scope} {own : List (Str × Nat)} {t t1 : Tg} {sr sr1 : Sr} {c : EO}
theorem s_cnone : PTs X [] (TCv X.K W ft .none) := ⟨fun pins s σ H Q I ⟨μ, Ω, ρ, at_, p⟩ => pts_nil.run pins s σ H Q I (Post.here (rel := rQ) p at_.wf rfl)⟩
theorem s_csome (h : PT X l (TTv X.K W ft a)) : PTs X [l] (TCv X.K W ft (.some a)) := ⟨fun pins s σ H Q I h1 => (pts_one h).run pins s σ H Q I h1⟩
end
end Rf
end
section
namespace Rf
open PySem L2
section
variable {X : Cx} {W : WX} {ft : FT} {pos p : Pos} {l r m tg elt iter o i value : Expr} {a b e k v : E} {es : List Expr} {el : EL} {t : Tg} {sr : Sr} {st : Stmt} {sts u1 u2 : List Stmt} {sl s1 s2 : SL} {ss : S}
theorem nope_s : PS X st (TSv X.K W ft .nope) := ps_never.imp fun D σ H ⟨μ, Ω, ρ, at_, p⟩ => p
theorem nope_e : PE X l (TEv X.K W ft .nope) := ⟨fun pins s σ H Q I ⟨μ, Ω, ρ, at_, p⟩ => False.elim p⟩
theorem s_pass : PS X (.Pass pos) (TSv X.K W ft .pass) := ps_pass.imp fun D σ H ⟨μ, Ω, ρ, at_, p⟩ => p σ H μ (Ext.refl at_.wf) at_.env
theorem s_brk : PS X (.Break pos) (TSv X.K W ft .brk) := ps_break.imp fun D σ H ⟨μ, Ω, ρ, at_, p⟩ => p σ H μ (Ext.refl at_.wf) at_.env
theorem s_cnt : PS X (.Continue pos) (TSv X.K W ft .cnt) := ps_continue.imp fun D σ H ⟨μ, Ω, ρ, at_, p⟩ => p σ H μ (Ext.refl at_.wf) at_.env
theorem s_retN : PS X (.Return none pos) (TSv X.K W ft .retN) := ps_retN.imp fun D σ H ⟨μ, Ω, ρ, at_, p⟩ => p .non H μ (Ext.refl at_.wf) rnon
theorem s_ret (h : PE X l (TEv X.K W ft e)) : PS X (.Return (some l) pos) (TSv X.K W ft (.ret e)) := by
  refine (ps_ret h).imp fun D σ H ⟨μ, Ω, ρ, at_, p⟩ => ?_
  refine ⟨μ, Ω, ρ, at_, (PostS.st (rel := rD X.K) at_ (show PostS X.K W H μ Ω ((evE ft e ρ Ω).st ρ fun d Ω => .ok (.rt d) Ω) D from p)).mono ?_⟩
  rintro v H1 ⟨μ1, Ω1, x, _, ex1, r1, p1⟩
  exact p1 v H1 μ1 (Ext.refl ex1.wf) r1
theorem s_expr (h : PE X l (TEv X.K W ft e)) (hs : swapsWith l none pos.line X.env = pure false) : PS X (.Expr l pos) (TSv X.K W ft (.expr e)) := by
  refine (ps_expr h hs).imp fun D σ H ⟨μ, Ω, ρ, at_, p⟩ => ?_
  refine ⟨μ, Ω, ρ, at_, (PostS.st (rel := rD X.K) at_ (show PostS X.K W H μ Ω ((evE ft e ρ Ω).st ρ fun d Ω => .ok (.nx ρ) Ω) D from p)).mono ?_⟩
  rintro v H1 ⟨μ1, Ω1, x, _, ex1, r1, p1⟩
  exact p1 σ H1 μ1 (Ext.refl ex1.wf) (at_.ext ex1).env
theorem s_doc {x : Str} {j : Nat} {p2 : Pos} : PS X (.Expr (.Constant (.str x) j p2) pos) (TSv X.K W ft .pass) := ps_doc.imp fun D σ H ⟨μ, Ω, ρ, at_, p⟩ => p σ H μ (Ext.refl at_.wf) at_.env
theorem i_asg {D : Ends} {σ : St} {H : Hp} (h : TSv X.K W ft (.asg t e) D σ H) : tAsg (TEv X.K W ft e) (TGv X.K t) D σ H := by
  obtain ⟨μ, Ω, ρ, at_, p⟩ := h
  refine ⟨μ, Ω, ρ, at_, (PostS.st (rel := rD X.K) at_ (show PostS X.K W H μ Ω ((evE ft e ρ Ω).st ρ fun d Ω => match bindT t d ρ with | some ρ' => .ok (.nx ρ') Ω | none => .bad) D from p)).mono ?_⟩
  rintro v H1 ⟨μ1, Ω1, x, _, ex1, r1, p1⟩
  cases eb : bindT t x ρ with
  | none => rw [eb] at p1; exact False.elim p1
  | some ρ' =>
    rw [eb] at p1
    exact bind_tg eb r1 (at_.ext ex1).env fun σ' re' _ => p1 σ' H1 μ1 (Ext.refl ex1.wf) re'
theorem s_asg (hc : X.calm = true) (hN : X.N.Nodup) (h : TgOk X t tg) (he : PE X l (TEv X.K W ft e)) (hs : swapsWithSole [tg] l pos.line X.env = pure false) (hw : swappedStores [tg] l X.env = pure none) : PS X (.Assign [tg] l pos) (TSv X.K W ft (.asg t e)) := by
  have h1 : (assignEach [tg] X.env).map (·.2) = [assign tg X.env] := by cases h <;> rfl
  exact (ps_asg he (s_tg hc hN h) hs hw h1).imp fun _ _ _ h => i_asg h
theorem s_asgLc {i : Nat} (h : PS X st (tAsg (TEv X.K W ft e) (gName i))) : PS X st (TSv X.K W ft (.asg (.nm i) e)) := h.imp fun _ _ _ h => i_asg (t := .nm i) h
theorem i_par {D : Ends} {σ : St} {H : Hp} {is : List Nat} {N : List V → St → Hp → Prop} (h : TSv X.K W ft (.par is el) D σ H)
    (k : ∀ {vs : List V} {H1 : Hp} {μ1 : Mu} {Ω1 : Sto} {ρ' ρ : Env} {ds : List Rf.D}, Reps X.K (Fz H1 μ1 Ω1) μ1 Ω1.length ds vs → setAll is ds ρ = some ρ' → REnv X.K (Fz H1 μ1 Ω1) μ1 Ω1.length ρ σ → (∀ σ', REnv X.K (Fz H1 μ1 Ω1) μ1 Ω1.length ρ' σ' → D.nx σ' H1) → N vs σ H1) :
    TAv X.K W ft el σ H fun vs H1 => N vs σ H1 := by
  obtain ⟨μ, Ω, ρ, at_, p⟩ := h
  refine ⟨μ, Ω, ρ, at_, (PostS.st (rel := rL X.K) at_ (show PostS X.K W H μ Ω ((evL ft el ρ Ω).st ρ fun ds Ω => match setAll is ds ρ with | some ρ' => .ok (.nx ρ') Ω | none => .bad) D from p)).mono ?_⟩
  rintro vs H1 ⟨μ1, Ω1, ds, _, ex1, r1, p1⟩
  cases eb : setAll is ds ρ with
  | none => rw [eb] at p1; exact False.elim p1
  | some ρ' =>
    rw [eb] at p1
    exact k r1 eb (at_.ext ex1).env fun σ' re' => p1 σ' H1 μ1 (Ext.refl ex1.wf) re'
theorem s_par2 {i j : Nat} {x y : Str} {a b : Expr} {px py pt pt2 : Pos} {kt k2 : Nat} (hc : X.calm = true) (hN : X.N.Nodup) (hi : X.N[i]? = some x) (hj : X.N[j]? = some y) (hij : i ≠ j) (hx : X.env.scope.names.lookup x = some .local) (hy : X.env.scope.names.lookup y = some .local)
    (ha : PA X [a, b] (TAv X.K W ft el)) (hw : swappedStores [.Tuple [.Name x px, .Name y py] kt pt] (.Tuple [a, b] k2 pt2) X.env = pure (some [x, y])) (hs : swapsWithSole [.Tuple [.Name x px, .Name y py] kt pt] (.Tuple [a, b] k2 pt2) pos.line X.env = pure false) :
    PS X (.Assign [.Tuple [.Name x px, .Name y py] kt pt] (.Tuple [a, b] k2 pt2) pos) (TSv X.K W ft (.par [i, j] el)) := by
  refine (ps_par hc hN hi hj hij hx hy ha hw hs).imp fun D σ H h => i_par (N := fun vs σ H1 => ∃ v w, vs = [v, w] ∧ D.nx ((σ.set i (some v)).set j (some w)) H1) h ?_
  intro vs H1 μ1 Ω1 ρ' ρ ds rs es re k
  match ds, rs, es with
  | [d1, d2], rs, es =>
    obtain ⟨v, w, rfl, r1, r2⟩ := rs.two'
    cases es
    exact ⟨v, w, rfl, k _ ((re.set i r1).set j r2)⟩
  | [], _, es => cases es
  | [_], _, es => cases es
  | _ :: _ :: _ :: _, _, es => cases es
theorem s_par3 {i j q : Nat} {x y z : Str} {a b c : Expr} {px py pz pt pt2 : Pos} {kt k2 : Nat} (hc : X.calm = true) (hN : X.N.Nodup) (hi : X.N[i]? = some x) (hj : X.N[j]? = some y) (hq : X.N[q]? = some z) (hij : i ≠ j) (hiq : i ≠ q) (hjq : j ≠ q)
    (hx : X.env.scope.names.lookup x = some .local) (hy : X.env.scope.names.lookup y = some .local) (hz : X.env.scope.names.lookup z = some .local)
    (ha : PA X [a, b, c] (TAv X.K W ft el)) (hw : swappedStores [.Tuple [.Name x px, .Name y py, .Name z pz] kt pt] (.Tuple [a, b, c] k2 pt2) X.env = pure (some [x, y, z])) (hs : swapsWithSole [.Tuple [.Name x px, .Name y py, .Name z pz] kt pt] (.Tuple [a, b, c] k2 pt2) pos.line X.env = pure false) :
    PS X (.Assign [.Tuple [.Name x px, .Name y py, .Name z pz] kt pt] (.Tuple [a, b, c] k2 pt2) pos) (TSv X.K W ft (.par [i, j, q] el)) := by
  refine (ps_par3 hc hN hi hj hq hij hiq hjq hx hy hz ha hw hs).imp fun D σ H h => i_par (N := fun vs σ H1 => ∃ u v w, vs = [u, v, w] ∧ D.nx (((σ.set i (some u)).set j (some v)).set q (some w)) H1) h ?_
  intro vs H1 μ1 Ω1 ρ' ρ ds rs es re k
  match ds, rs, es with
  | [d1, d2, d3], rs, es =>
    simp only [Reps] at rs
    obtain ⟨v, ws, rfl, r1, w, ws2, rfl, r2, u, ws3, rfl, r3, rfl⟩ := rs
    cases es
    exact ⟨v, w, u, rfl, k _ (((re.set i r1).set j r2).set q r3)⟩
  | [], _, es => cases es
  | [_], _, es => cases es
  | [_, _], _, es => cases es
  | _ :: _ :: _ :: _ :: _, _, es => cases es
where
  repS_len {K : Frg} {G : Hp} {μ : Mu} {n : Nat} : ∀ {fs : List (Str × D)} {ws : List (Str × V)}, RepS K G μ n fs ws → ws.length = fs.length
    | [], ws, h => by simp only [RepS] at h; rw [h]; rfl
    | (g, x) :: r, ws, h => by
      simp only [RepS] at h
      obtain ⟨u, w', rfl, ru, rr⟩ := h
      rw [List.length_cons, List.length_cons, repS_len rr]
theorem ps_iset {td ty tv : TE} {p2 : Pos} (hu : X.A.units + 1 < cLine) (ho : PE X o td) (hi : PE X i ty) (hv : PE X value tv) (hs : swapsWith value (some (.Subscript o i p2)) pos.line X.env = pure false) :
    PS X (.Assign [.Subscript o i p2] value pos) (fun D σ H => tv σ H fun v H1 => td σ H1 fun x H2 => ty σ H2 fun y H3 => (∃ q H4, x = .ref q ∧ DPut H3 q y v H4 ∧ D.nx σ H4) ∨ rSetL x y v H3 fun H4 => D.nx σ H4) := by
  refine ⟨fun pins s σ H D I h => ?_⟩
  refine wpAny_Assign_Subscript (thn (hv.run pins s σ H _ I h) fun r s1 ⟨v, H1, I1, rv, q1⟩ => thn (ho.run pins s1 σ H1 _ I1 q1) fun u s2 ⟨x, H2, I2, rx, q2⟩ => thn (hi.run pins s2 σ H2 _ I2 q2) fun iv s3 ⟨y, H3, I3, ry, q3⟩ => ?_) hs
  rcases q3 with ⟨q, H4, ex, g, q3⟩ | q3
  · subst ex
    obtain rfl : u = Value.ref q := rx
    exact d_setItem hu I3 g ry rv fun s4 I4 => ⟨σ, H4, I4, q3⟩
  · exact thn (set_list pins s3 σ H3 x y v u iv r _ I3 rx ry rv q3) fun _ s4 ⟨H4, I4, k⟩ => ⟨σ, H4, I4, k⟩
theorem Reps.setI {K : Frg} {G : Hp} {μ : Mu} {n : Nat} {d : D} {v : V} (rv : Rep K G μ n d v) : ∀ {xs : List D} {vs : List V} (j : Nat), Reps K G μ n xs vs → Reps K G μ n (xs.set j d) (vs.set j v)
  | [], vs, j, h => by simp only [Reps] at h; rw [h]; simpa using Reps.nil
  | x :: xs, vs, 0, h => by
    simp only [Reps] at h
    obtain ⟨u, ws, rfl, _, rs⟩ := h
    exact Reps.cons rv rs
  | x :: xs, vs, j + 1, h => by
    simp only [Reps] at h
    obtain ⟨u, ws, rfl, ru, rs⟩ := h
    exact Reps.cons ru (rs.setI rv j)
theorem s_iset {p2 : Pos} (hu : X.A.units + 1 < cLine) (ho : PE X o (TEv X.K W ft a)) (hi : PE X i (TEv X.K W ft b)) (hv : PE X value (TEv X.K W ft e)) (hs : swapsWith value (some (.Subscript o i p2)) pos.line X.env = pure false) :
    PS X (.Assign [.Subscript o i p2] value pos) (TSv X.K W ft (.iset a b e)) := by
  refine (ps_iset hu ho hi hv hs).imp fun D σ H ⟨μ, Ω, ρ, at_, p⟩ => ?_
  refine ⟨μ, Ω, ρ, at_, (PostS.st (rel := rD X.K) at_ p).mono ?_⟩
  rintro v H1 ⟨μ1, Ω1, d, _, ex1, r1, p1⟩
  have a1 := at_.ext ex1
  refine ⟨μ1, Ω1, ρ, a1, (PostS.st (rel := rD X.K) a1 p1).mono ?_⟩
  rintro u H2 ⟨μ2, Ω2, x, _, ex2, r2, p2⟩
  have a2 := a1.ext ex2
  refine ⟨μ2, Ω2, ρ, a2, (PostS.st (rel := rD X.K) a2 p2).mono ?_⟩
  rintro q H3 ⟨μ3, Ω3, y, _, ex3, r3, p3⟩
  have a3 := a2.ext ex3
  have rd := Rep.tr (ex2.trans ex3).tr _ _ r1
  have rx := Rep.tr ex3.tr _ _ r2
  cases x with
  | hd k =>
    simp only [Rep] at rx
    cases eo : Ω3[k]? with
    | none => simp only [eo] at p3; exact False.elim p3
    | some ob =>
      simp only [eo] at p3
      have al : ob ≠ .dead → Alive Ω3 k := fun h => ⟨_, eo, h⟩
      cases ob with
      | lst xs =>
        cases y with
        | int n =>
          cases ej : ixN xs.length n with
          | none => simp only [ej] at p3; exact False.elim p3
          | some j =>
            simp only [ej] at p3
            obtain ⟨al, ws, h1, rr, z⟩ := a3.wf.lst eo
            refine .inr ⟨μ3 k, ws, n, j, rx.2, view_int r3, h1, by rw [rr.length]; exact ej, ?_⟩
            have ex4 := Ext.put (ho := .lst (ws.set j v)) (ob := .lst (xs.set j d)) a3.wf al (by intro z; cases z) ⟨_, rfl, rr.setI rd j, by rw [List.length_set]; exact z⟩
            exact p3 σ _ μ3 ex4 (a3.ext ex4).env
        | _ => exact False.elim p3
      | dk kvs =>
        cases ek : keyD y with
        | none => simp only [ek] at p3; exact False.elim p3
        | some qk =>
          simp only [ek] at p3
          by_cases hz : kvs.length < big
          · simp only [if_pos hz] at p3
            obtain ⟨ho, h1, ws, rfl, rr⟩ := a3.wf.ob k _ eo (by intro z; cases z)
            refine .inl ⟨μ3 k, _, rx.2, .inl ⟨ws, qk, h1, key_rep r3 ek, by rw [rr.length, ← big_eq]; exact hz, rfl⟩, ?_⟩
            have ex4 := Ext.put (ho := .dK (putK ws qk v)) (ob := .dk (putKD kvs qk d)) a3.wf (al (by intro z; cases z)) (by intro z; cases z) ⟨_, rfl, RepK.put qk rd rr⟩
            exact p3 σ _ μ3 ex4 (a3.ext ex4).env
          · simp only [if_neg hz] at p3; exact False.elim p3
      | dt kvs =>
        cases ek : tkeyD y with
        | none => simp only [ek] at p3; exact False.elim p3
        | some qk =>
          simp only [ek] at p3
          by_cases hz : kvs.length < big
          · simp only [if_pos hz] at p3
            obtain ⟨ho, h1, ws, rfl, rr⟩ := a3.wf.ob k _ eo (by intro z; cases z)
            obtain ⟨bq, rfl, hb⟩ := tkey_view (view0 r3) ek
            refine .inl ⟨μ3 k, _, rx.2, .inr ⟨ws, qk, bq, h1, rfl, hb, by rw [rr.length, ← big_eq]; exact hz, rfl⟩, ?_⟩
            have ex4 := Ext.put (ho := .dT (putK ws qk v)) (ob := .dt (putKD kvs qk d)) a3.wf (al (by intro z; cases z)) (by intro z; cases z) ⟨_, rfl, RepT.put qk rd rr⟩
            exact p3 σ _ μ3 ex4 (a3.ext ex4).env
          · simp only [if_neg hz] at p3; exact False.elim p3
      | _ => exact False.elim p3
  | _ => exact False.elim p3
theorem ss_nil : PSs X [] (TLv X.K W ft .nil) := pss_nil.imp fun D σ H ⟨μ, Ω, ρ, at_, p⟩ => p σ H μ (Ext.refl at_.wf) at_.env
theorem i_cons {D : Ends} {σ : St} {H : Hp} (h : TLv X.K W ft (.cons ss sl) D σ H) : tSeq (TSv X.K W ft ss) (TLv X.K W ft sl) D σ H := by
  obtain ⟨μ, Ω, ρ, at_, p⟩ := h
  refine ⟨μ, Ω, ρ, at_, ?_⟩
  have p : PostS X.K W H μ Ω (match exS ft ss ρ Ω with | .ok (.nx ρ') Ω' => exL ft sl ρ' Ω' | q => q) D := p
  cases e : exS ft ss ρ Ω with
  | bad => rw [e] at p; exact p
  | ex x ρ' Ω1 => rw [e] at p; exact p
  | ok f Ω1 =>
    rw [e] at p
    cases f with
    | nx ρ' => exact fun σ' H' μ' ex re => ⟨μ', Ω1, ρ', ⟨ex.wf, re⟩, PostS.ext ex p⟩
    | bk ρ' => exact p
    | ct ρ' => exact p
    | rt d => exact p
theorem ss_cons (h : PS X st (TSv X.K W ft ss)) (hr : PSs X sts (TLv X.K W ft sl)) : PSs X (st :: sts) (TLv X.K W ft (.cons ss sl)) := (pss_cons h hr).imp fun _ _ _ h => i_cons h
theorem s_if (hc : PT X l (TTv X.K W ft e)) (h1 : PSs X u1 (TLv X.K W ft s1)) (h2 : PSs X u2 (TLv X.K W ft s2)) : PS X (.If l u1 u2 pos) (TSv X.K W ft (.ife e s1 s2)) := by
  refine (ps_if hc h1 h2).imp fun D σ H ⟨μ, Ω, ρ, at_, p⟩ => ?_
  refine ⟨μ, Ω, ρ, at_, (PostS.st (rel := rQ) at_ p).mono ?_⟩
  rintro b H1 ⟨μ1, Ω1, b', _, ex1, r1, p1⟩
  have r1 : b' = b := r1
  subst r1
  cases b' with
  | true => exact ⟨μ1, Ω1, ρ, at_.ext ex1, p1⟩
  | false => exact ⟨μ1, Ω1, ρ, at_.ext ex1, p1⟩
theorem s_for (hp : PassesOwn (model X.prog X.w) X.A X.env X.xe) (hc : X.calm = true) (hi : PI X tg iter (TIv X.K W ft sr)) (hg : PG X tg (TGv X.K t)) (hb : PSs X sts (TLv X.K W ft sl)) (hs : ∀ x, foldedSetIterable iter X.env x = pure x) :
    PS X (.For tg iter sts [] pos) (TSv X.K W ft (.for t sr sl)) := by
  refine (ps_for hp hc hi hg hb hs).imp fun D σ H ⟨μ, Ω, ρ, at_, p⟩ => ?_
  refine ⟨μ, Ω, ρ, at_, (PostS.st (rel := rI X.K) at_ p).mono ?_⟩
  rintro J H1 ⟨μ1, Ω1, xs, _, ex1, rJ, p1⟩
  have a1 := at_.ext ex1
  let turn : Rf.D → Env → Sto → RS := fun d ρ Ω => match bindT t d ρ with
    | some ρ' => exL ft sl ρ' Ω
    | none => .bad
  have p1 : PostS X.K W H1 μ1 Ω1 (forD turn xs ρ Ω1) D := p1
  refine ⟨fun i m σ2 H2 => m = xs.length - i ∧ i ≤ xs.length ∧ ∃ μ2 Ω2 ρ2, Ext X.K H1 μ1 Ω1 H2 μ2 Ω2 ∧ REnv X.K (Fz H2 μ2 Ω2) μ2 Ω2.length ρ2 σ2 ∧ PostS X.K W H1 μ1 Ω1 (forD turn (xs.drop i) ρ2 Ω2) D, ⟨_, rfl, Nat.zero_le _, μ1, Ω1, ρ, Ext.refl a1.wf, a1.env, p1⟩, ?_⟩
  rintro i m σ2 H2 ⟨hm, hi, μ2, Ω2, ρ2, ex2, re2, p2⟩
  by_cases hlt : i < xs.length
  · have hdr : xs.drop i = xs[i] :: xs.drop (i + 1) := List.drop_eq_getElem_cons hlt
    rw [hdr] at p2
    have hd : xs[i]? = some xs[i] := List.getElem?_eq_getElem hlt
    generalize xs[i] = d at p2 hd
    refine .inr ⟨rJ.go i H2 μ2 Ω2 ex2.lat hlt, fun σ' H' => ∃ μ2 Ω2 ρ2, Ext X.K H1 μ1 Ω1 H' μ2 Ω2 ∧ REnv X.K (Fz H' μ2 Ω2) μ2 Ω2.length ρ2 σ' ∧ PostS X.K W H1 μ1 Ω1 (forD turn (xs.drop (i + 1)) ρ2 Ω2) D, fun σ' H' h => ⟨xs.length - (i + 1), by omega, rfl, hlt, h⟩, ?_⟩
    intro x H' hy
    obtain ⟨_, ex3, rx⟩ := rJ.yld i H2 μ2 Ω2 x H' d ex2.lat hd hy
    have p2 : PostS X.K W H1 μ1 Ω1 (match turn d ρ2 Ω2 with
      | .ok (.nx ρ') Ω' => forD turn (xs.drop (i + 1)) ρ' Ω'
      | .ok (.ct ρ') Ω' => forD turn (xs.drop (i + 1)) ρ' Ω'
      | .ok (.bk ρ') Ω' => .ok (.nx ρ') Ω'
      | r => r) D := p2
    cases eb : bindT t d ρ2 with
    | none =>
      have : turn d ρ2 Ω2 = .bad := by show (match bindT t d ρ2 with | some ρ' => exL ft sl ρ' Ω2 | none => .bad) = .bad; rw [eb]
      rw [this] at p2
      exact False.elim p2
    | some ρ3 =>
      have et : turn d ρ2 Ω2 = exL ft sl ρ3 Ω2 := by show (match bindT t d ρ2 with | some ρ' => exL ft sl ρ' Ω2 | none => .bad) = _; rw [eb]
      rw [et] at p2
      refine bind_tg eb rx (re2.tr ex3.tr) fun σ3 re3 _ => ⟨μ2, Ω2, ρ3, ⟨ex3.wf, re3⟩, ?_⟩
      have exA := ex2.trans ex3
      cases ee : exL ft sl ρ3 Ω2 with
      | bad => rw [ee] at p2; exact p2
      | ex x ρ' Ω4 => rw [ee] at p2; exact PostS.ext exA p2
      | ok f Ω4 =>
        rw [ee] at p2
        cases f with
        | nx ρ' => exact fun σ' H' μ' ex re => ⟨μ', Ω4, ρ', exA.trans ex, re, p2⟩
        | ct ρ' => exact fun σ' H' μ' ex re => ⟨μ', Ω4, ρ', exA.trans ex, re, p2⟩
        | bk ρ' => exact PostS.ext exA p2
        | rt d => exact PostS.ext exA p2
  · have hie : i = xs.length := by omega
    subst hie
    rw [List.drop_length] at p2
    exact .inl ⟨rJ.stop _ H2 μ2 Ω2 ex2.lat (Nat.le_refl _), p2 σ2 H2 μ2 ex2 re2⟩
end
end Rf
end
section
namespace Rf
open PySem L2
theorem str_ext {a b : Str} (h : a.cps.toList = b.cps.toList) : a = b := by
  cases a
  cases b
  congr 1
  exact Array.toList_inj.mp h
theorem leS_iff (a b : Str) : leS a b = true ↔ a.cps.toList ≤ b.cps.toList := by
  unfold leS
  rw [decide_eq_true_eq, List.not_lt]
theorem leS_trans (a b c : Str) (h : leS a b = true) (h' : leS b c = true) : leS a c = true := (leS_iff a c).mpr (List.le_trans ((leS_iff a b).mp h) ((leS_iff b c).mp h'))
theorem leS_total (a b : Str) : (leS a b || leS b a) = true := by
  rw [Bool.or_eq_true, leS_iff, leS_iff]
  exact List.le_total _ _
theorem leS_anti {a b : Str} (h : leS a b = true) (h' : leS b a = true) : a = b := str_ext (List.le_antisymm ((leS_iff a b).mp h) ((leS_iff b a).mp h'))
theorem uniqS {a b : List Str} (pa : a.Pairwise fun x y => leS x y = true) (pb : b.Pairwise fun x y => leS x y = true) (h : a.Perm b) : a = b := List.Perm.eq_of_pairwise (fun x y _ _ h1 h2 => leS_anti h1 h2) pa pb h
end Rf
end
section
namespace Rf
open PySem PySem.Spec PyProof.Rows L2
section
variable {P : Program} {w : World} {A : Around} {E : Value → Shared → Prop} {s : Shared} {a : Addr} {l : List Str}
theorem SetS.at_ {h h' : Heap} (R : SetS w h a l) (k : ∀ o, h.get? a = some o → h'.get? a = some o) : SetS w h' a l := by
  obtain ⟨o, es, ep, t, ho, r⟩ := R
  exact ⟨o, es, ep, t, k o ho, r⟩
end
section
variable {X : Cx}
end
end Rf
end
section
namespace Rf
open PySem PySem.Spec PyProof.Rows L2
section
variable {P : Program} {w : World} {κ : Type} [DecidableEq κ] {d : KeyKind P w κ} {A : Around} {E : Value → Shared → Prop} {s : Shared}
variable {a : Addr} {L : List (Addr × List κ)} {es : Array (Int × Value)} {ep : Nat} {t : SetTable}
theorem SetU.size {h : Heap} (R : SetU d h a L es ep t) : es.size = L.length := by
  have q := congrArg List.length R.rows
  unfold rowsT at q
  rw [Array.length_toList, List.length_map] at q
  exact q
theorem SetU.fits {h : Heap} (R : SetU d h a L es ep t) : t.fits es.size = true := by
  have q1 := R.tab.sz
  rw [List.length_map] at q1
  have q2 := R.size
  have q3 := R.room
  unfold SetTable.fits SetTable.fill
  rw [R.tab.dm, Bool.and_eq_true, beq_iff_eq, decide_eq_true_eq]
  show t.place.size = es.size ∧ t.place.size + 0 ≤ t.mask
  omega
theorem SetU.entry {h : Heap} (R : SetU d h a L es ep t) {i : Nat} {p : Addr × List κ} (e : L[i]? = some p) : es[i]? = some (tupleKeyHash d p.2, Value.ref p.1) := by
  rw [← Array.getElem?_toList, R.rows]
  unfold rowsT
  rw [List.getElem?_map, e] <;> rfl
end
end Rf
end
section
namespace Rf
open PySem PySem.Spec PyProof.Rows L2 PySem.W
theorem dataLt_str (a b : Str) : dataLt (.str a) (.str b) = decide (a.cps.toList < b.cps.toList) := by
  have q := congrFun (congrFun (dataLe_str (fun x : Str => x)) b) a
  rw [dataLe_eq] at q
  have q : (!dataLt (.str a) (.str b)) = decide (b.cps.toList ≤ a.cps.toList) := q
  rw [← Bool.not_not (dataLt (.str a) (.str b)), q, ← not_lt_str, Bool.not_not]
theorem row_strs : ∀ a b : List Str, (!rowLt (b.map .str) (a.map .str)) = leSs a b
  | [], b => by
    cases b <;> rfl
  | x :: a, [] => rfl
  | x :: a, y :: b => by
    have e : rowLt ((y :: b).map PyData.str) ((x :: a).map PyData.str) = if PyData.eqv (.str y) (.str x) = true then rowLt (b.map .str) (a.map .str) else dataLt (.str y) (.str x) := dataLt_cons rfl _ _
    rw [e]
    have e2 : PyData.eqv (.str y) (.str x) = decide (y = x) := by
      show (y == x) = decide (y = x)
      rw [← Bool.coe_iff_coe]
      simp
    rw [e2]
    show _ = if x = y then leSs a b else leS x y
    by_cases h : x = y
    · subst h
      rw [if_pos rfl, if_pos (by simp)]
      exact row_strs a b
    · rw [if_neg h, if_neg (by simpa using fun z => h z.symm), dataLt_str]
      unfold leS
      rw [← Bool.coe_iff_coe]
      simp
theorem leT_eq : dataLe false encT = leSs := by
  funext a b
  rw [dataLe_eq]
  exact row_strs a b
theorem swoF : SrtO.Swo (fun _ _ : Value => false) := { asym := fun _ _ z => Bool.noConfusion z, tr := fun _ _ _ _ _ => rfl }
theorem perm1 {α : Type} {out vs : List α} (h1 : vs.length ≤ 1) (pm : out.Perm vs) : out = vs := by
  match vs, h1, pm with
  | [], _, pm => exact pm.eq_nil
  | [v], _, pm => exact pm.eq_singleton
theorem len1 {α : Type} {vs : List α} (h1 : vs.length ≤ 1) : vs.length ≤ sizeLine := Nat.le_trans h1 (by rw [sizeLine_eq]; exact Nat.le_of_ble_eq_true rfl)
theorem not2 {α : Type} {vs : List α} (h1 : vs.length ≤ 1) (z : 2 ≤ vs.length) : False := absurd (Nat.le_trans z h1) (by decide)
section
variable {P : Program} {w : World} {A : Around} {E : Value → Shared → Prop} {s : Shared} {a : Addr}
theorem reads_strs {h : Heap} {k : List Str} {vs : List Value} (hi : ItemsAre (PySem.strKind P w) k vs) : ReadsAll h vs (k.map .str) [] := by
  induction hi with
  | nil => exact .nil
  | @cons q v ks vs h1 _ ih =>
    obtain ⟨t, rfl⟩ := Value.isStrOf_shape h1
    exact .cons (as := []) (bs := []) (.str q t) ih
theorem reads_tup {h : Heap} {k : List Str} {b : Addr} (x : TIs (PySem.strKind P w) h k b) : Reads h (.ref b) (encT k) [] := by
  obtain ⟨o, items, n, ho, hc, hd, hi⟩ := x
  exact .tuple ho hc hd (reads_strs hi)
theorem depth_strs : ∀ k : List Str, PyData.depthAll (k.map .str) = 0
  | [] => rfl
  | x :: k => by
    show max 0 (PyData.depthAll (k.map .str)) = 0
    rw [depth_strs k]
    rfl
theorem alike_strs : ∀ a b : List Str, alikeAll (a.map .str) (b.map .str) = true
  | [], b => by cases b <;> rfl
  | x :: a, [] => rfl
  | x :: a, y :: b => by
    show (true && alikeAll (a.map .str) (b.map .str)) = true
    rw [alike_strs a b]
    rfl
theorem each_of {ps : List (Addr × List Str)} {R : Value → List Str → Prop} : ∀ {l : List (Addr × List Str)}, (∀ p ∈ l, R (.ref p.1) p.2) → EachIs R (l.map fun p => Value.ref p.1) (l.map (·.2))
  | [], _ => .nil
  | p :: l, h => .cons (h p List.mem_cons_self) (each_of (ps := ps) fun q hq => h q (List.mem_cons_of_mem _ hq))
theorem of_each {ps : List (Addr × List Str)} : ∀ {out : List Value} {bs : List (List Str)}, EachIs (fun v b => ∃ p ∈ ps, v = Value.ref p.1 ∧ p.2 = b) out bs → ∃ ps' : List (Addr × List Str), out = ps'.map (fun p => Value.ref p.1) ∧ ps'.map (·.2) = bs ∧ ∀ p ∈ ps', p ∈ ps
  | _, _, .nil => ⟨[], rfl, rfl, fun p h => by cases h⟩
  | _, _, .cons ⟨p, hp, e1, e2⟩ r => by
    obtain ⟨ps', q1, q2, q3⟩ := of_each r
    refine ⟨p :: ps', by rw [e1, q1]; rfl, by rw [List.map_cons, e2, q2], fun x hx => ?_⟩
    rcases List.mem_cons.mp hx with z | z
    · rw [z]; exact hp
    · exact q3 x z
theorem sorted_tups {l : Addr} {ps : List (Addr × List Str)} {Q : Value → Shared → Prop} (hl : s.heap.IsList l (ps.map fun p => Value.ref p.1).toArray) (ht : ∀ p ∈ ps, TIs (PySem.strKind P w) s.heap p.2 p.1) (hne : ∀ p ∈ ps, p.2 ≠ []) (hz : ps.length ≤ sizeLine) (hu : A.units + 3 < cLine)
    (h : ∀ (ps' : List (Addr × List Str)), ps'.map (·.2) = (ps.map (·.2)).mergeSort leSs → (∀ p ∈ ps', p ∈ ps) → Q (.ref (s.heap.objs.size + 1)) { s with heap := sortedAll s.heap (ps.map fun p => Value.ref p.1) (ps'.map fun p => Value.ref p.1).toArray }) :
    wpAny (model P w) A (call (.builtin "sorted") [.ref l]) Q E s := by
  refine sorted_data (R := fun v b => ∃ p ∈ ps, v = Value.ref p.1 ∧ p.2 = b) (enc := encT) (bs := ps.map (·.2)) hl (each_of (ps := ps) fun p hp => ⟨p, hp, rfl, rfl⟩) (each_of (ps := ps) fun p hp => ⟨[], reads_tup (ht p hp)⟩) (AllAlike.of fun b b' => alike_strs b b') (.inl fun q hq => ?_) (by rw [List.length_map]; exact hz) (fun b hb => ?_) fun out ho eo => ?_
  · rw [List.map_map] at hq
    obtain ⟨p, hp, rfl⟩ := List.mem_map.mp hq
    obtain ⟨x, r, e⟩ := List.exists_cons_of_ne_nil (hne p hp)
    exact ⟨.str x, r.map .str, by show encT p.2 = _; rw [e]; rfl⟩
  · have : (encT b).depth = 1 := by
      show PyData.depthAll (b.map .str) + 1 = 1
      rw [depth_strs]
    rw [this]
    exact hu
  · rw [leT_eq] at eo
    obtain ⟨ps', q1, q2, q3⟩ := of_each eo
    rw [q1]
    exact h ps' q2 q3
theorem sorted_one {l : Addr} {vs : List Value} {Q : Value → Shared → Prop} (hl : s.heap.IsList l vs.toArray) (h1 : vs.length ≤ 1) (h : Q (.ref (s.heap.objs.size + 1)) { s with heap := sortedAll s.heap vs vs.toArray }) :
    wpAny (model P w) A (call (.builtin "sorted") [.ref l]) Q E s :=
  SrtO.sorted_ord swoF hl (len1 h1) (fun z => (not2 h1 z).elim) fun out so st => by
    rw [perm1 h1 st.perm]
    exact h
end
end Rf
end
section
namespace Rf
open PySem PySem.Spec PyProof.Rows L2 PySem.W
section
variable {X : Cx} {pins : List (Addr × Obj)} {σ : L2.St} {H : Hp} {s : Shared}
theorem items_strs {P : Program} {w : World} : ∀ {k : List Str} {us : List Value}, Vals (k.map V.str) us → ItemsAre (PySem.strKind P w) k us
  | [], _, .nil => .nil
  | x :: k, _, .cons r t => by
    obtain ⟨tk, rfl⟩ := r
    exact .cons (strKind_is P w x tk) (items_strs t)
theorem inv_tis {b : Addr} {k : List Str} (I : Inv X pins σ H s) (h : SqT X.K H b (k.map V.str)) : TIs (PySem.strKind X.prog X.w) s.heap k b := by
  obtain ⟨its, r, ⟨o, ho, hc, n, hd⟩, _⟩ := I.tuple h
  exact ⟨o, its.toArray, n, ho, hc, hd, by simpa using items_strs r⟩
theorem vals_refs : ∀ {ps : List (Addr × List Str)} {us : List Value}, Vals (ps.map fun p => V.ref p.1) us → us = ps.map fun p => Value.ref p.1
  | [], _, .nil => rfl
  | p :: ps, _, .cons r t => by
    cases r
    rw [vals_refs t]
    rfl
theorem refs_vals : ∀ (ps : List (Addr × List Str)), Vals (ps.map fun p => V.ref p.1) (ps.map fun p => Value.ref p.1)
  | [] => .nil
  | p :: ps => .cons rfl (refs_vals ps)
theorem cr_sortTs (hu : X.A.units + 64 < cLine) : CallR X (.builtin "sorted") (rSortTs X.K) := by
  intro pins s σ H vs us Q I r h
  obtain ⟨l, ps, rfl, ⟨hs, ht⟩, hz, hn, q⟩ := h
  obtain ⟨its, rv, hl, _⟩ := I.list hs
  rw [Vals.ref1 r]
  have e := vals_refs rv
  subst e
  have fin : ∀ ps' : List (Addr × List Str), ps'.map (·.2) = (ps.map (·.2)).mergeSort leSs → (∀ p ∈ ps', p ∈ ps) → EP X pins σ Q (.ref (s.heap.objs.size + 1)) { s with heap := sortedAll s.heap (ps.map fun p => Value.ref p.1) (ps'.map fun p => Value.ref p.1).toArray } := fun ps' e1 e2 => by
    obtain ⟨ep, he'⟩ := PyProof.Rows.sortedAll_at s.heap (ps.map fun p => Value.ref p.1) (ps'.map fun p => Value.ref p.1).toArray
    have hl' : (ps'.map fun p => V.ref p.1).length ≤ sizeLine := by
      have q := congrArg List.length e1
      rw [List.length_map, List.length_mergeSort, List.length_map] at q
      rw [List.length_map, q]
      exact hz
    exact ⟨.ref _, upd H (s.heap.objs.size + 1) (.lst (ps'.map fun p => V.ref p.1)), I.laid (t' := s.toks) (fun _ _ => PyProof.Rows.sortedAll_old) (Nat.le_succ _) ⟨hl', ps'.map fun p => Value.ref p.1, ep, refs_vals ps', he'⟩, rfl, q ps' _ e1 e2 (I.hok.fresh (Nat.le_succ _))⟩
  have tis : ∀ p ∈ ps, TIs (PySem.strKind X.prog X.w) s.heap p.2 p.1 := fun p hp => inv_tis I (.inl (.inl (ht p hp)))
  by_cases h1 : ps.length ≤ 1
  · refine sorted_one hl.isList (by rw [List.length_map]; exact h1) (fin ps ?_ fun p hp => hp)
    match ps, h1 with
    | [], _ => simp
    | [p], _ => simp
  · exact sorted_tups hl.isList tis (hn.resolve_left h1) hz (by omega) fin
end
end Rf
end
section
namespace Rf
open PySem L2
theorem rising_pw : ∀ (ys : List Str) (x : Str), PyProof.Rows.risingS x ys = true → (x :: ys).Pairwise fun a b => leS a b = true
  | [], x, _ => List.pairwise_singleton _ _
  | y :: ys, x, h => by
    have h : (!PySem.Spec.ltCps y.cps.toList x.cps.toList && PyProof.Rows.risingS y ys) = true := h
    rw [Bool.and_eq_true] at h
    have r := rising_pw ys y h.2
    have hxy : leS x y = true := by
      have q := h.1
      rw [PyProof.Rows.ltCps_eq] at q
      unfold leS
      rw [decide_eq_true_eq]
      intro z
      rw [decide_eq_true z] at q
      cases q
    refine List.pairwise_cons.mpr ⟨fun z hz => ?_, r⟩
    rcases List.mem_cons.mp hz with e | e
    · rw [e]; exact hxy
    · exact leS_trans x y z hxy ((List.pairwise_cons.mp r).1 z e)
theorem sorted_pw {ys : List Str} (h : PyProof.Rows.sortedS ys = true) : ys.Pairwise fun a b => leS a b = true := by
  cases ys with
  | nil => exact List.Pairwise.nil
  | cons x r => exact rising_pw r x h
theorem sortS_eq {ys l : List Str} (h : PyProof.Rows.sortedS ys = true) (p : ys.Perm l) : ys = l.mergeSort leS :=
  uniqS (sorted_pw h) (List.pairwise_mergeSort leS_trans leS_total l) (p.trans (List.mergeSort_perm l leS).symm)
theorem tups_rep {K : Frg} {G : Hp} {μ : Mu} {n : Nat} : ∀ {xs : List D} {vs : List V} {ts : List (List Str)}, Reps K G μ n xs vs → tupsD xs = some ts → ∃ ps : List (Addr × List Str), vs = ps.map (fun p => V.ref p.1) ∧ ps.map (·.2) = ts ∧ ∀ p ∈ ps, G p.1 = some (.tup (p.2.map V.str)) ∧ p.2.length ≤ sizeLine
  | [], vs, ts, h, e => by
    simp only [Reps] at h
    cases e
    exact ⟨[], h, rfl, fun p hp => by cases hp⟩
  | d :: ds, vs, ts, h, e => by
    simp only [Reps] at h
    obtain ⟨v, ws, rfl, rv, rs⟩ := h
    cases d with
    | tup b =>
      have e : (match strsD b, tupsD ds with | some s, some r => some (s :: r) | _, _ => none) = some ts := e
      cases e1 : strsD b with
      | none => rw [e1] at e; cases e
      | some sb =>
        cases e2 : tupsD ds with
        | none => rw [e1, e2] at e; cases e
        | some r =>
          rw [e1, e2] at e
          cases e
          obtain ⟨ps, q1, q2, q3⟩ := tups_rep rs e2
          simp only [Rep] at rv
          obtain ⟨p, us, rfl, ru, zz, c⟩ := rv
          have eu := strs_rep ru e1
          subst eu
          have hc : G p = some (.tup (sb.map V.str)) := by
            rcases c with c | ⟨c, _⟩
            · exact c
            · match b, e1, c with
              | [.int _, .int _], e1, _ => cases e1
          refine ⟨(p, sb) :: ps, by rw [q1]; rfl, by rw [List.map_cons, q2], fun x hx => ?_⟩
          rcases List.mem_cons.mp hx with z | z
          · rw [z]; exact ⟨hc, by rw [List.length_map] at zz; exact zz⟩
          · exact q3 x z
    | _ => cases e
theorem tups_back {K : Frg} {G : Hp} {μ : Mu} {n : Nat} : ∀ {ps : List (Addr × List Str)}, (∀ p ∈ ps, G p.1 = some (.tup (p.2.map V.str)) ∧ p.2.length ≤ sizeLine) → Reps K G μ n (ps.map fun p => .tup (p.2.map .str)) (ps.map fun p => V.ref p.1)
  | [], _ => Reps.nil
  | p :: ps, h => by
    refine Reps.cons ?_ (tups_back fun q hq => h q (List.mem_cons_of_mem _ hq))
    obtain ⟨h1, h2⟩ := h p List.mem_cons_self
    simp only [Rep]
    exact ⟨p.1, p.2.map V.str, rfl, strs_back p.2, by rw [List.length_map]; exact h2, .inl h1⟩
end Rf
end
section
namespace Rf
open PySem L2
section
variable {X : Cx} {W : WX} {ft : FT} {pos p p2 p3 : Pos} {l : Expr} {a : E}
theorem ne_of_all {ts : List (List Str)} (h : ts.all (fun t => !t.isEmpty) = true) : ∀ t ∈ ts, t ≠ [] := fun t ht z => by
  have := List.all_eq_true.mp h t ht
  rw [z] at this
  cases this
end
end Rf
end
section
namespace Rf
open PySem PySem.Spec PyProof.Rows L2 PySem.W
theorem eqv_encT (a b : List Str) : PyData.eqv (encT a) (encT b) = decide (a = b) := by
  show PyData.eqvAll (a.map .str) (b.map .str) = decide (a = b)
  induction a generalizing b with
  | nil => cases b <;> simp [PyData.eqvAll]
  | cons x a ih =>
    cases b with
    | nil => simp [PyData.eqvAll]
    | cons y b =>
      rw [List.map_cons, List.map_cons, PyData.eqvAll, ih b]
      show ((x == y) && decide (a = b)) = decide (x :: a = y :: b)
      rw [← Bool.coe_iff_coe]
      simp
theorem dataLt_encT (a b : List Str) : dataLt (encT a) (encT b) = !leSs b a := by
  rw [← row_strs b a, Bool.not_not]
  rfl
theorem row_tups : ∀ a b : List (List Str), (!rowLt (b.map encT) (a.map encT)) = leSss a b
  | [], b => by
    cases b <;> rfl
  | x :: a, [] => rfl
  | x :: a, y :: b => by
    have e : rowLt ((y :: b).map encT) ((x :: a).map encT) = if PyData.eqv (encT y) (encT x) = true then rowLt (b.map encT) (a.map encT) else dataLt (encT y) (encT x) := dataLt_cons (x := encT y) (y := encT x) (by show alike (.tuple (y.map .str)) (.tuple (x.map .str)) = true; rw [alike]; exact alike_strs y x) _ _
    rw [e, eqv_encT]
    show _ = if x = y then leSss a b else leSs x y
    by_cases h : x = y
    · subst h
      rw [if_pos rfl, if_pos (by simp)]
      exact row_tups a b
    · rw [if_neg h, if_neg (by simpa using fun z => h z.symm), dataLt_encT, Bool.not_not]
theorem leTT_eq : dataLe false encTT = leSss := by
  funext a b
  rw [dataLe_eq]
  exact row_tups a b
theorem alike_tups : ∀ a b : List (List Str), alikeAll (a.map encT) (b.map encT) = true
  | [], b => by cases b <;> rfl
  | x :: a, [] => rfl
  | x :: a, y :: b => by
    show (alikeAll (x.map .str) (y.map .str) && alikeAll (a.map encT) (b.map encT)) = true
    rw [alike_strs, alike_tups a b]
    rfl
theorem depth_tups : ∀ k : List (List Str), PyData.depthAll (k.map encT) ≤ 1
  | [] => by show (0 : Nat) ≤ 1; decide
  | x :: k => by
    show max (PyData.depthAll (x.map .str) + 1) (PyData.depthAll (k.map encT)) ≤ 1
    rw [depth_strs]
    exact Nat.max_le.mpr ⟨Nat.le_refl _, depth_tups k⟩
section
variable {X : Cx} {pins : List (Addr × Obj)} {σ : L2.St} {H : Hp} {s : Shared} {β : Type}
theorem vals_refsG : ∀ {ps : List (Addr × β)} {us : List Value}, Vals (ps.map fun p => V.ref p.1) us → us = ps.map fun p => Value.ref p.1
  | [], _, .nil => rfl
  | p :: ps, _, .cons r t => by
    cases r
    rw [vals_refsG t]
    rfl
theorem refs_valsG : ∀ (ps : List (Addr × β)), Vals (ps.map fun p => V.ref p.1) (ps.map fun p => Value.ref p.1)
  | [] => .nil
  | p :: ps => .cons rfl (refs_valsG ps)
theorem each_ofG {R : Value → β → Prop} : ∀ {l : List (Addr × β)}, (∀ p ∈ l, R (.ref p.1) p.2) → EachIs R (l.map fun p => Value.ref p.1) (l.map (·.2))
  | [], _ => .nil
  | p :: l, h => .cons (h p List.mem_cons_self) (each_ofG fun q hq => h q (List.mem_cons_of_mem _ hq))
theorem of_eachG {ps : List (Addr × β)} : ∀ {out : List Value} {bs : List β}, EachIs (fun v b => ∃ p ∈ ps, v = Value.ref p.1 ∧ p.2 = b) out bs → ∃ ps' : List (Addr × β), out = ps'.map (fun p => Value.ref p.1) ∧ ps'.map (·.2) = bs ∧ ∀ p ∈ ps', p ∈ ps
  | _, _, .nil => ⟨[], rfl, rfl, fun p h => by cases h⟩
  | _, _, .cons ⟨p, hp, e1, e2⟩ r => by
    obtain ⟨ps', q1, q2, q3⟩ := of_eachG r
    refine ⟨p :: ps', by rw [e1, q1]; rfl, by rw [List.map_cons, e2, q2], fun x hx => ?_⟩
    rcases List.mem_cons.mp hx with z | z
    · rw [z]; exact hp
    · exact q3 x z
theorem cr_sortEnc {enc : β → PyData} (hu : X.A.units + 64 < cLine) : CallR X (.builtin "sorted") (rSortEnc X.K enc) := by
  intro pins s σ H vs us Q I r h
  obtain ⟨l, ps, rfl, hs, ht, hz, ha, hk, hd, q⟩ := h
  obtain ⟨its, rv, hl, _⟩ := I.list hs
  rw [Vals.ref1 r]
  have e := vals_refsG rv
  subst e
  have fin : ∀ ps' : List (Addr × β), ps'.map (·.2) = (ps.map (·.2)).mergeSort (dataLe false enc) → (∀ p ∈ ps', p ∈ ps) → EP X pins σ Q (.ref (s.heap.objs.size + 1)) { s with heap := sortedAll s.heap (ps.map fun p => Value.ref p.1) (ps'.map fun p => Value.ref p.1).toArray } := fun ps' e1 e2 => by
    obtain ⟨ep, he'⟩ := PyProof.Rows.sortedAll_at s.heap (ps.map fun p => Value.ref p.1) (ps'.map fun p => Value.ref p.1).toArray
    have hl' : (ps'.map fun p => V.ref p.1).length ≤ sizeLine := by
      have q := congrArg List.length e1
      rw [List.length_map, List.length_mergeSort, List.length_map] at q
      rw [List.length_map, q]
      exact hz
    exact ⟨.ref _, upd H (s.heap.objs.size + 1) (.lst (ps'.map fun p => V.ref p.1)), I.laid (t' := s.toks) (fun _ _ => PyProof.Rows.sortedAll_old) (Nat.le_succ _) ⟨hl', ps'.map fun p => Value.ref p.1, ep, refs_valsG ps', he'⟩, rfl, q ps' _ e1 e2 (I.hok.fresh (Nat.le_succ _))⟩
  refine sorted_data (R := fun v b => ∃ p ∈ ps, v = Value.ref p.1 ∧ p.2 = b) (enc := enc) (bs := ps.map (·.2)) hl.isList (each_ofG fun p hp => ⟨p, hp, rfl, rfl⟩) (each_ofG fun p hp => Dp.reads I (enc p.2) (.ref p.1) (.ref p.1) (ht p hp) rfl) ha hk (by rw [List.length_map]; exact hz) (fun b hb => ?_) fun out ho eo => ?_
  · obtain ⟨p, hp, rfl⟩ := List.mem_map.mp hb
    have := hd p hp
    omega
  · obtain ⟨ps', q1, q2, q3⟩ := of_eachG eo
    rw [q1]
    exact fin ps' q2 q3
end
theorem strs_id : ∀ {b : List D} {s : List Str}, strsD b = some s → b = s.map .str
  | [], s, e => by cases e; rfl
  | d :: b, s, e => by
    cases d with
    | str x =>
      obtain ⟨s', e1, rfl⟩ := Option.map_eq_some_iff.mp (show (strsD b).map (x :: ·) = some s from e)
      rw [strs_id e1]; rfl
    | _ => cases e
theorem tups_id : ∀ {b : List D} {t : List (List Str)}, tupsD b = some t → b = t.map fun u => .tup (u.map .str)
  | [], t, e => by cases e; rfl
  | d :: b, t, e => by
    cases d with
    | tup x =>
      have e : (match strsD x, tupsD b with | some s, some r => some (s :: r) | _, _ => none) = some t := e
      cases e1 : strsD x with
      | none => rw [e1] at e; cases e
      | some s =>
        cases e2 : tupsD b with
        | none => rw [e1, e2] at e; cases e
        | some r =>
          rw [e1, e2] at e
          cases e
          rw [tups_id e2, strs_id e1]; rfl
    | _ => cases e
theorem toPys_strs' : ∀ s : List Str, toPys (s.map .str) = some (s.map .str)
  | [] => rfl
  | x :: s => by
    show (match toPy (.str x), toPys (s.map D.str) with | some d, some ds => some (d :: ds) | _, _ => none) = _
    rw [toPys_strs' s]
    rfl
theorem toPys_tups' : ∀ t : List (List Str), toPys (t.map fun u => D.tup (u.map .str)) = some (t.map encT)
  | [] => rfl
  | x :: t => by
    show (match toPy (.tup (x.map .str)), toPys (t.map fun u => D.tup (u.map .str)) with | some d, some ds => some (d :: ds) | _, _ => none) = _
    rw [toPys_tups' t]
    have : toPy (.tup (x.map D.str)) = some (encT x) := by
      show (toPys (x.map D.str)).map PyData.tuple = _
      rw [toPys_strs']; rfl
    rw [this]
    rfl
theorem toPy_dTT (t : List (List Str)) : toPy (dTT t) = some (encTT t) := by
  show (toPys _).map PyData.tuple = _
  rw [toPys_tups']; rfl
theorem tupss_rep {K : Frg} {H : Hp} {μ : Mu} {Ω : Sto} {n : Nat} : ∀ {xs : List D} {vs : List V} {ts : List (List (List Str))}, Reps K (Fz H μ Ω) μ n xs vs → tupssD xs = some ts → ∃ ps : List (Addr × List (List Str)), vs = ps.map (fun p => V.ref p.1) ∧ ps.map (·.2) = ts ∧ ∀ p ∈ ps, Rep K (Fz H μ Ω) μ n (dTT p.2) (V.ref p.1)
  | [], vs, ts, h, e => by
    simp only [Reps] at h
    cases e
    exact ⟨[], h, rfl, fun p hp => by cases hp⟩
  | d :: ds, vs, ts, h, e => by
    simp only [Reps] at h
    obtain ⟨v, ws, rfl, rv, rs⟩ := h
    cases d with
    | tup b =>
      have e : (match tupsD b, tupssD ds with | some s, some r => some (s :: r) | _, _ => none) = some ts := e
      cases e1 : tupsD b with
      | none => rw [e1] at e; cases e
      | some sb =>
        cases e2 : tupssD ds with
        | none => rw [e1, e2] at e; cases e
        | some r =>
          rw [e1, e2] at e
          cases e
          obtain ⟨ps, q1, q2, q3⟩ := tupss_rep rs e2
          have eb := tups_id e1
          subst eb
          have rv0 := rv
          simp only [Rep] at rv0
          obtain ⟨p, us, ev, _⟩ := rv0
          subst ev
          refine ⟨(p, sb) :: ps, by rw [q1]; rfl, by rw [List.map_cons, q2], fun x hx => ?_⟩
          rcases List.mem_cons.mp hx with z | z
          · rw [z]; exact rv
          · exact q3 x z
    | _ => cases e
theorem tupss_back {K : Frg} {G : Hp} {μ : Mu} {n : Nat} : ∀ {ps : List (Addr × List (List Str))}, (∀ p ∈ ps, Rep K G μ n (dTT p.2) (V.ref p.1)) → Reps K G μ n (ps.map fun p => dTT p.2) (ps.map fun p => V.ref p.1)
  | [], _ => Reps.nil
  | p :: ps, h => Reps.cons (h p List.mem_cons_self) (tupss_back fun q hq => h q (List.mem_cons_of_mem _ hq))
end Rf
end
section
namespace Rf
open PySem L2
theorem sortI_pw {ys l : List Int} (h : ys.Pairwise (· ≤ ·)) (p : ys.Perm l) : ys = l.mergeSort leI := by
  refine List.Perm.eq_of_pairwise (le := fun a b => leI a b = true) (fun a b _ _ h1 h2 => ?_) (h.imp fun h => decide_eq_true h) (List.pairwise_mergeSort (fun a b c h1 h2 => ?_) (fun a b => ?_) l) (p.trans (List.mergeSort_perm l leI).symm)
  · have := of_decide_eq_true h1; have := of_decide_eq_true h2; omega
  · have := of_decide_eq_true h1; have := of_decide_eq_true h2; exact decide_eq_true (by omega)
  · unfold leI; rw [Bool.or_eq_true, decide_eq_true_eq, decide_eq_true_eq]; omega
section
variable {X : Cx}
theorem sorted_ok (hu : X.A.units + 64 < cLine) : CallR X (.builtin "sorted") (rb X.K (biD .sorted)) := by
  intro pins s σ H xs us Q I r ⟨μ, Ω, ds, d, w, pv, e, k⟩
  match ds, pv, e with
  | [.lst ys], pv, e =>
    obtain ⟨v, rfl, vx⟩ := paired1 pv
    obtain ⟨q, vs, rfl, rr, z, c⟩ := vx
    have e : (match strsD ys with
      | some ss => if ss.length < 64 then some (D.lst ((ss.mergeSort leS).map .str)) else none
      | none => match tupsD ys with
        | some ts => if ts.length ≤ 1 ∨ ts.all (fun t => !t.isEmpty) = true then some (.lst ((ts.mergeSort leSs).map fun t => .tup (t.map .str))) else none
        | none => sorted2 ys) = some d := e
    cases e1 : strsD ys with
    | some ss =>
      rw [e1] at e
      obtain ⟨h64, rfl⟩ := opt_if e
      have ev := strs_rep rr e1
      subst ev
      refine cr_sortedS pins s σ H _ us Q I r ⟨q, ss, rfl, .inl (.inl c), h64, fun zs p2 pm srt hp => ?_⟩
      have ez : zs = ss.mergeSort leS := sortS_eq srt pm
      subst ez
      exact k.lst w (strs_back _) (by
        rw [List.length_map, List.length_mergeSort, ← big_eq]
        exact Nat.le_trans (Nat.le_of_lt h64) (by decide)) p2 hp
    | none =>
      rw [e1] at e
      simp only at e
      cases e2 : tupsD ys with
      | none =>
        rw [e2] at e
        have e : (match intsD ys with
          | some ns => some (D.lst ((ns.mergeSort leI).map .int))
          | none => match tupssD ys with
            | some ts => if ts.all (fun t => !t.isEmpty) = true then some (.lst ((ts.mergeSort leSss).map dTT)) else none
            | none => none) = some d := e
        cases e3 : intsD ys with
        | some ns =>
          rw [e3] at e
          cases e
          have ev := ints_rep rr e3
          subst ev
          refine cr_sortedI pins s σ H _ us Q I r ⟨q, ns, rfl, .inl (.inl c), fun zs p2 pm srt hp => ?_⟩
          have ez : zs = ns.mergeSort leI := sortI_pw srt pm
          subst ez
          exact k.lst w (ints_back _) (by rw [List.length_map, List.length_mergeSort]; rw [List.length_map] at z; exact z) p2 hp
        | none =>
          rw [e3] at e
          cases e4 : tupssD ys with
          | none => rw [e4] at e; cases e
          | some tts =>
            rw [e4] at e
            obtain ⟨hne, rfl⟩ := opt_if e
            obtain ⟨ps, rfl, rfl, tp⟩ := tupss_rep rr e4
            rw [List.length_map] at z
            refine cr_sortEnc (enc := encTT) hu pins s σ H _ us Q I r ⟨q, ps, rfl, .inl (.inl c), fun p hp => dp_rep _ _ _ (tp p hp) (toPy_dTT p.2), z, PySem.W.AllAlike.of fun b b' => alike_tups b b', .inl fun x hx => ?_, fun p hp => ?_, fun ps' p2 eL sub hp => ?_⟩
            · obtain ⟨t, ht, rfl⟩ := List.mem_map.mp hx
              have h1 := List.all_eq_true.mp hne t ht
              cases t with
              | nil => cases h1
              | cons a t => exact ⟨_, _, rfl⟩
            · show PyData.depthAll (p.2.map encT) + 1 ≤ 50
              have := depth_tups p.2
              omega
            · rw [leTT_eq] at eL
              have ed : ((ps.map (·.2)).mergeSort leSss).map dTT = ps'.map fun p => dTT p.2 := by rw [← eL, List.map_map]; rfl
              rw [ed] at k
              refine k.lst w (tupss_back fun p hp => tp p (sub p hp)) ?_ p2 hp
              have lz := congrArg List.length eL
              rw [List.length_map, List.length_mergeSort, List.length_map] at lz
              rw [List.length_map, lz]
              exact z
      | some ts =>
        rw [e2] at e
        obtain ⟨hne, rfl⟩ := opt_if e
        obtain ⟨ps, rfl, eps, tp⟩ := tups_rep rr e2
        have l1 : ps.length = ts.length := by rw [← eps, List.length_map]
        rw [List.length_map] at z
        refine cr_sortTs hu pins s σ H _ us Q I r ⟨q, ps, rfl, ⟨.inl (.inl c), fun p hp => Fz.le (tp p hp).1⟩, z, ?_, fun ps' p2 eL sub hp => ?_⟩
        · rcases hne with h | h
          · exact .inl (by rw [l1]; exact h)
          · refine .inr fun p hp => ne_of_all h p.2 ?_
            rw [← eps]
            exact List.mem_map.mpr ⟨p, hp, rfl⟩
        · rw [eps] at eL
          have ed : (ts.mergeSort leSs).map (fun t => D.tup (t.map .str)) = ps'.map fun p => D.tup (p.2.map .str) := by rw [← eL, List.map_map]; rfl
          rw [ed] at k
          refine k.lst w (tups_back fun p hp => tp p (sub p hp)) ?_ p2 hp
          have lz := congrArg List.length eL
          rw [List.length_map, List.length_mergeSort] at lz
          rw [List.length_map, lz, ← l1]
          exact z
  | [], _, e => cases e
  | .lst _ :: _ :: _, _, e => cases e
  | [.non], _, e => cases e
  | [.bl _], _, e => cases e
  | [.int _], _, e => cases e
  | [.str _], _, e => cases e
  | [.tup _], _, e => cases e
  | [.e0], _, e => cases e
  | [.scr _], _, e => cases e
  | [.dk _], _, e => cases e
  | [.dt _], _, e => cases e
  | [.ins _ _], _, e => cases e
  | [.hd _], _, e => cases e
  | d1 :: _ :: _, _, e => cases d1 <;> cases e
end
end Rf
end
section
namespace Rf
open PySem L2
section
variable {X : Cx} {W : WX} {ft : FT} {pos p : Pos} {l : Expr} {a : E} {es : List Expr} {el : EL}
theorem listN_ok (hc : X.calm = true) : CallR X (.type "list") (rbN X.K) := by
  intro pins s σ H xs us Q I r h
  obtain ⟨μ, Ω, c, ys, v, rfl, w, vc, e, k⟩ := h
  have seq : ∀ zs : List D, seqD c = some zs → zs = ys → wpAny (model X.prog X.w) X.A (call (.type "list") us) (EP X pins σ Q) X.xe s := fun zs e2 e3 => by
    subst e3
    obtain ⟨p, vs, rfl, rr, z, c⟩ := view_seq vc e2
    exact call_list_of pins s σ H _ us Q I r ⟨p, vs, rfl, c, k vs rr z⟩
  cases c with
  | dk kvs =>
    cases e
    obtain ⟨p, ws, rfl, rr, c⟩ := vc
    obtain ⟨u, rfl, ru⟩ := vals1 r
    cases ru
    exact list_dk hc I c (k _ (keys_back rr) (by rw [List.length_map]; exact (dk_rd I.hok c).1))
  | dt kvs =>
    have e : (if kvs.all (fun kv => decide (kv.1.length ≤ big)) = true then some (D.lst (kvs.map fun kv => D.tup (kv.1.map kD))) else none) = some (.lst ys) := e
    by_cases hz : kvs.all (fun kv => decide (kv.1.length ≤ big)) = true
    · rw [if_pos hz] at e
      cases e
      obtain ⟨p, ws, rfl, rr, c⟩ := vc
      refine call_list_dT hc pins s σ H _ us Q I r ⟨p, ws, rfl, c, fun q bs hq hb => ?_⟩
      have rk := isKeys_rep w (fun kv hm => of_decide_eq_true (List.all_eq_true.mp hz kv hm)) rr hb
      exact k _ rk (by rw [rk.length, List.length_map, ← rr.length]; exact (dt_rd I.hok c).1) q hq
    · rw [if_neg hz] at e
      cases e
  | lst zs => cases e; exact seq _ rfl rfl
  | tup zs => cases e; exact seq _ rfl rfl
  | e0 => cases e; exact seq _ rfl rfl
  | scr ns => cases e; exact seq _ rfl rfl
  | _ => cases e
theorem s_newb (hc : X.calm = true) (hg : Gl X "list") (hm : X.mg "list" = none) (ha : PE X l (TEv X.K W ft a)) (hp : plainE l = true) : PE X (.Call (.Name "list" p) [l] [] pos) (TEv X.K W ft (.newb a)) := by
  refine (pe_callTy (listN_ok hc) hg hm (by decide +kernel) (pa_cons ha pa_nil (star_cons hp)) (by decide +kernel) (by decide +kernel) (star_cons hp) rfl).imp fun σ H Q ⟨μ, Ω, ρ, at_, p⟩ => ?_
  obtain ⟨μ0, Ω0, ρ0, a0, p0⟩ := one at_ p
  refine ⟨μ0, Ω0, ρ0, a0, p0.mono ?_⟩
  rintro v H1 ⟨μ1, Ω1, x, a1, r1, p1⟩
  have vx := view a1.wf r1
  have p1 : Post X.K (rD X.K) W σ H1 μ1 Ω1 (match listD (lk Ω1 x) with | some (.lst xs) => .ok (.hd Ω1.length) (Ω1 ++ [.lst xs]) | _ => .bad) Q := p1
  cases e : listD (lk Ω1 x) with
  | none => rw [e] at p1; exact False.elim p1
  | some d =>
    rw [e] at p1
    cases d with
    | lst ys => exact ⟨μ1, Ω1, _, ys, v, rfl, a1.wf, vx, e, fun vs rr z => push_want (ob := .lst ys) a1 ⟨vs, rfl, rr, z⟩ p1⟩
    | _ => exact False.elim p1
theorem s_biA (f : Bi) (hf : f.okA = true) (hu : X.A.units + 64 < cLine) (hc : X.calm = true) (hg : Gl X f.name) (hm : X.mg f.name = none) (ha : PA X (l :: es) (TAv X.K W ft el)) (he : starEach (l :: es) X.env = (false, eval l X.env) :: starEach es X.env) (hpl : (backTo pos (starEach es X.env)).any (·.1) = false) :
    PE X (.Call (.Name f.name p) (l :: es) [] pos) (TEv X.K W ft (.bi f el)) := by
  cases f with
  | sorted => exact (pe_callB (sorted_ok hu) hg hm (by decide +kernel) ha (by decide +kernel) (by decide +kernel) he hpl).imp fun _ _ _ h => i_bi h
  | mn => exact (pe_callB (min_ok hc) hg hm (by decide +kernel) ha (by decide +kernel) (by decide +kernel) he hpl).imp fun _ _ _ h => i_bi h
  | _ => exact s_bi _ rfl hc hu hg hm ha he hpl
end
end Rf
end
section
namespace Rf
open PySem L2 PySem.Spec PyProof.Rows
theorem enum_newT (l : Addr) (xs : Array Value) :
    Meets (Builtin.«enumerate.__new__» ⟨[.type "enumerate", .ref l], []⟩) (fun _ R s => s.heap.IsTuple l xs ∧
      R (.ok (.ret (.ref (s.heap.push { cls := .type "tuple_iterator", data := .fields #[.ref l, .int 0 0] }).objs.size)))
        { s with heap := (s.heap.push { cls := .type "tuple_iterator", data := .fields #[.ref l, .int 0 0] }).push { cls := .type "enumerate", data := .fields #[.none, .bool false, .ref s.heap.objs.size, rawInt 0, .none, .none] } }) :=
  .of_wp fun prog w A R s h => by
    obtain ⟨hp, g, dd, tok, oss⟩ := s; obtain ⟨hl, h⟩ := h
    have hsub := sub_enumerate
    have q1 : ∀ {A' : Around} {E : Value → Shared → Prop} {Q : Value → Shared → Prop}, Q (.ref hp.objs.size) ⟨(hp.push { cls := .type "tuple_iterator", data := .fields #[.ref l, .int 0 0] }), g, dd, tok, oss⟩ → wpAny (model prog w) A' (pyIter (.ref l)) Q E ⟨hp, g, dd, tok, oss⟩ :=
      fun q => wpAny_pyIter_tuple hl q
    obtain ⟨⟨cl, dct, dt, sl⟩, hl1, hc1, n, hd1⟩ := hl
    have hl2 : (Shared.heap ⟨hp, g, dd, tok, oss⟩).get? l = some ⟨cl, dct, dt, sl⟩ := hl1
    wp_walk using AutoSeq1.wpAny_loadPart' hl1, q1
    refine wpAny_stack_any fun st => wpAny_pure ?_
    split
    · rename_i cc _ _ _ _ _
      cases (cc == Value.type "enumerate")
      · wp_walk using AutoSeq1.wpAny_loadPart' hl1, q1
        exact ⟨_, rfl, h⟩
      · wp_walk using AutoSeq1.wpAny_loadPart' hl1, q1
        exact ⟨_, rfl, h⟩
    · wp_walk using AutoSeq1.wpAny_loadPart' hl1, q1
      exact ⟨_, rfl, h⟩
section
variable {prog : Program} {w : World} {A : Around} {E : Value → Shared → Prop} {s : Shared}
theorem call_enumT {l : Addr} {xs : Array Value} {Q : Value → Shared → Prop} (hL : s.heap.IsTuple l xs)
    (k : ∀ h', IsEnum h' (s.heap.objs.size + 1) s.heap.objs.size 0 .none → h'.IsTupleIter s.heap.objs.size l 0 → h'.objs.size = s.heap.objs.size + 2 →
      (∀ b ob, s.heap.get? b = some ob → h'.get? b = some ob) → Q (.ref (s.heap.objs.size + 1)) { s with heap := h' }) :
    wpAny (model prog w) A (call (.type "enumerate") [.ref l]) Q E s := by
  refine callType_new F.called_enumerate (by decide) (F.typeCall_enumerate_1 _) (F.newCall_enumerate_1 _) (fun ob => F.args_object_init_2 ob _) F.entry_enumerate_new (enum_newT l xs) ⟨hL, ?_⟩
  have zz : (s.heap.push { cls := .type "tuple_iterator", data := .fields #[.ref l, .int 0 0] }).objs.size = s.heap.objs.size + 1 := Heap.size_push ..
  show _ ∧ _
  rw [zz]
  have en : IsEnum ((s.heap.push { cls := .type "tuple_iterator", data := .fields #[.ref l, .int 0 0] }).push
      { cls := .type "enumerate", data := .fields #[.none, .bool false, .ref s.heap.objs.size, rawInt 0, .none, .none] }) (s.heap.objs.size + 1) s.heap.objs.size 0 .none := by
    have q := Heap.get?_push_size (s.heap.push { cls := .type "tuple_iterator", data := .fields #[.ref l, .int 0 0] })
      (o := { cls := .type "enumerate", data := .fields #[.none, .bool false, .ref s.heap.objs.size, rawInt 0, .none, .none] }) rfl
    rw [zz] at q; exact q
  exact ⟨⟨_, en, rfl⟩, k _ en ⟨_, Heap.get?_push_of_some _ (Heap.get?_push_size _ rfl), rfl, rfl⟩ (by rw [Heap.size_push, zz]) fun b ob x => Heap.get?_push_of_some _ (Heap.get?_push_of_some _ x)⟩
theorem enumT_end {e it t : Addr} {i : Nat} {xs : Array Value} {j : Int} {old : Value} {Q : Option Value → Shared → Prop} (hh : A.handled = none) (he : IsEnum s.heap e it j old) (hit : s.heap.IsTupleIter it t i) (ht : s.heap.IsTuple t xs) (hx : xs[i]? = none)
    (k : ∀ h', Heap.ExtBut it s.heap h' → Q none { s with heap := h' }) : wpAny (model prog w) A (pyNext (.ref e)) Q E s := by
  have ty : s.TypeIs (.ref e) "enumerate" := ⟨_, he, rfl⟩
  unfold pyNext
  refine wpAny_bind (wpAny_attempt (wpAny_callSpecial?_slot (name := Str.ofString "__next__") ty F.slot_enumerate_next (wpAny_call_entry F.slot_enumerate_next ty F.entry_enumerate_next ?_ (F.args_enumerate_next_1 _))))
  show wpAny _ A.in1 (field (.ref e) 2 >>= _) _ _ _
  refine wpAny_bind (wpAny_field he rfl (x := .ref it) rfl ?_)
  refine wpAny_bind (wpAny_nextOf_tuple_end (A := A.in1) hh hit ht hx fun h' x he' hx' => ?_)
  obtain ⟨ob, ho, hc⟩ := hx'
  exact wpAny_bind (wpAny_isInstance (T := "StopIteration") (b := true) ⟨ob, ho, hc⟩ isSubtype_stop (wpAny_pure (k _ he')))
end
theorem turn_enT {P : Program} {w : World} {K : Frg} {elts : List Expr} {kk : Nat} {tpos : Pos} (a e it : Addr) :
    Turn P w K (.Tuple elts kk tpos) (ItEn K a) [e, it] e (fun i h => (∃ old, IsEnum h e it ((i : Nat) : Int) old) ∧ h.IsTupleIter it a i ∧ e ≠ it ∧ a ≠ it ∧ a ≠ e) where
  mem := by simp
  obj := fun i h st b hb => by
    obtain ⟨⟨old, he⟩, ⟨ob, ho, hc, hd⟩, _⟩ := st
    have e' : b = e ∨ b = it := by simpa using hb
    rcases e' with z | z
    · subst z; exact ⟨_, he, fun v q => nomatch q⟩
    · subst z; exact ⟨ob, ho, fun v q => by rw [hd] at q; cases q⟩
  keep := fun i h h' st k => let ⟨⟨old, he⟩, hi, hne⟩ := st; ⟨⟨old, k e (by simp) _ he⟩, hi.at fun o q => k it (by simp) o q, hne⟩
  item := by
    intro X hP hw hK hc i pins s σ H E I hf st hg
    subst hP hw hK
    obtain ⟨⟨old, he⟩, hit, hne, hai, hae⟩ := st
    obtain ⟨xs, x, hq, hx⟩ := hg
    obtain ⟨its, rv, p, hz⟩ := I.tuple hq
    obtain ⟨u, hu, ru⟩ := rv.get hx
    have p : s.heap.IsTuple a its.toArray := p
    have hel := Heap.lt_size he
    have hil : it < s.heap.objs.size := by obtain ⟨_, q, _⟩ := hit; exact Heap.lt_size q
    have hlt : i < its.toArray.size := by
      have := (List.getElem?_eq_some_iff.mp hu).1
      simpa using this
    refine wpAny_pyNext_enum_itemD (Draws.tuple (A := X.A.in1) (I.ok.hd hc) it a hai its.toArray) he ⟨hit, p⟩ hlt hne (by simp [hne, Ne.symm hae]) fun v h' tk pv ho hst hT hsz hk => ?_
    have ev : v = u := by
      have q : its.toArray[i]? = some v := pv
      rw [List.getElem?_toArray, hu] at q
      exact (Option.some.inj q).symm
    subst ev
    refine ⟨_, rfl, wpAny_letOwnedTupleGo_enum (s := { s with heap := h', toks := tk + 1 }) ho fun h'' he' sb => ?_⟩
    have hT2 : h''.get? s.heap.objs.size = some { cls := .type "tuple", data := .seq #[.int i tk, v] } := (sb.2 _ (Nat.ne_of_gt hel)).trans hT
    have nw : ObjOk X.prog X.w (upd H s.heap.objs.size (.tup [.int (i : Nat), x])) h'' s.heap.objs.size (.tup [.int (i : Nat), x]) :=
      ⟨by show 2 ≤ sizeLine; decide, [.int i tk, v], .cons ⟨_, rfl⟩ (.cons ru .nil), ⟨_, hT2, rfl, _, rfl⟩⟩
    have I1 : Inv X pins σ (upd H s.heap.objs.size (.tup [.int (i : Nat), x])) { s with heap := h'', toks := tk + 1 } :=
      I.turnedNew (ch := [e, it]) (fun b ob hb q => (sb.2 b (fun z => hb (by simp [z]))).trans (hk b ob (fun z => hb (by simp [z])) (fun z => hb (by simp [z])) q)) hf (Nat.le_refl _) nw
    refine ⟨.ref s.heap.objs.size, _, I1, rfl, ⟨_, x, rfl, I.hok.fresh (Nat.le_refl _), rfl, fun ys hy => by rw [I.tuple_inj hy hq]; exact hx⟩, ⟨⟨v, ?_⟩, hst.1.at fun o q => (sb.2 it (Ne.symm hne)).trans q, hne, hai, hae⟩, fun b hb => ?_⟩
    · have e1 : ((i + 1 : Nat) : Int) = (i : Int) + 1 := by omega
      rw [e1]; exact he'
    · have hb' : b < s.heap.objs.size := by
        have e' : b = e ∨ b = it := by simpa using hb
        rcases e' with z | z
        · subst z; exact hel
        · subst z; exact hil
      rw [upd_ne (Nat.ne_of_lt hb')]
      exact (hf b hb).1
  done := by
    intro X hP hw hK hc i pins s σ H E I hf st hg
    subst hP hw hK
    obtain ⟨⟨old, he⟩, hit, hne, hai, hae⟩ := st
    obtain ⟨xs, hq, hx⟩ := hg
    obtain ⟨its, rv, p, hz⟩ := I.tuple hq
    have p : s.heap.IsTuple a its.toArray := p
    obtain ⟨f0, f1, f2, f3, f4, f5⟩ := hf it (by simp)
    have hl := rv.length
    exact enumT_end (I.ok.hd hc) he hit p (by simp; omega) fun h' eb => ⟨rfl, I.turned (t' := s.toks) (fun b o hb q => eb b o hb q) f0 f1 f3 f4 f5⟩
  self := fun A i s Q E st h => let ⟨⟨_, he⟩, _⟩ := st; wpAny_pyIter_enum he h
end Rf
end
section
namespace Rf
open PySem L2 PyProof.Rows
theorem pi_en {X : Cx} {e : Expr} {ta : TA} {p pos tpos : Pos} {elts : List Expr} {kk : Nat} (hg : Gl X "enumerate") (hm : X.mg "enumerate" = none) (ha : PA X [e] ta) (hs : starEach [e] X.env = [(false, eval e X.env)]) :
    PI X (.Tuple elts kk tpos) (.Call (.Name "enumerate" p) [e] [] pos) (iEn X.K ta) := by
  refine ⟨fun pins s σ H R I h => ?_⟩
  refine Call_ (ld_blt I hg hm boot_enumerate (callWith_type1 (thn (ha.run pos pins s σ H _ I h) fun us s1 ⟨vs, H1, I1, r1, q1⟩ => ?_) hs rfl))
  obtain ⟨a, xs, ex, hq, q⟩ := q1
  subst ex
  obtain ⟨u, rfl, ru⟩ := vals1 r1
  cases ru
  obtain ⟨its, rv, p', hz⟩ := I1.tuple hq
  have p' : s1.heap.IsTuple a its.toArray := p'
  have alt : a < s1.heap.objs.size := by obtain ⟨_, q, _⟩ := id p'; exact Heap.lt_size q
  refine call_enumT p' fun h' he hit hsz hk => wpAny_pyIter_enum he ?_
  have I2 : Inv X pins σ H1 { s1 with heap := h' } := I1.kept (t' := s1.toks) hk
  refine ⟨s1.heap.objs.size + 1, [s1.heap.objs.size + 1, s1.heap.objs.size], _, _, H1, rfl, I2, turn_enT a (s1.heap.objs.size + 1) s1.heap.objs.size, ⟨⟨.none, he⟩, hit, Nat.succ_ne_self _, Nat.ne_of_lt alt, Nat.ne_of_lt (Nat.lt_succ_of_lt alt)⟩, fun b hb => ?_, q⟩
  have hle : s1.heap.objs.size ≤ b := by
    have e' : b = s1.heap.objs.size + 1 ∨ b = s1.heap.objs.size := by simpa using hb
    rcases e' with z | z
    · rw [z]; exact Nat.le_succ _
    · rw [z]; exact Nat.le_refl _
  exact I1.fpOk hle (I1.hok.fresh hle)
section
variable {K : Frg} {H : Hp} {μ : Mu} {Ω : Sto}
theorem it_enT {d : D} {a : Addr} {xs : List D} (r : Rep K (Fz H μ Ω) μ Ω.length d (.ref a)) (hl : ∀ H' μ' Ω', Rep K (Fz H' μ' Ω') μ' Ω'.length d (.ref a) → ∃ vs, Reps K (Fz H' μ' Ω') μ' Ω'.length xs vs ∧ SqT K H' a vs) :
    ItRep K (ItEn K a) H μ Ω (xs.zipIdx.map fun p => .tup [.int p.2, p.1]) where
  stop := fun i H' μ' Ω' ex hi => by
    obtain ⟨vs, rs, sq⟩ := hl _ _ _ (Rep.tr ex.tr _ _ r)
    exact ⟨vs, sq, by rw [rs.length]; simpa using hi⟩
  go := fun i H' μ' Ω' ex hi => by
    obtain ⟨vs, rs, sq⟩ := hl _ _ _ (Rep.tr ex.tr _ _ r)
    have hi : i < xs.length := by simpa using hi
    obtain ⟨v, e1, _⟩ := rs.get (List.getElem?_eq_getElem hi)
    exact ⟨vs, v, sq, e1⟩
  yld := fun i H' μ' Ω' v H'' d' ex hd ⟨T, x, h1, h2, h3, h4⟩ => by
    subst h1 h3
    obtain ⟨vs, rs, sq⟩ := hl _ _ _ (Rep.tr ex.tr _ _ r)
    have e4 := h4 vs sq
    rw [List.getElem?_map, List.getElem?_zipIdx] at hd
    cases e5 : xs[i]? with
    | none => rw [e5] at hd; cases hd
    | some y =>
      rw [e5] at hd
      obtain ⟨u, e6, ru⟩ := rs.get e5
      rw [e4] at e6
      cases e6
      have hd : D.tup [.int ((0 + i : Nat) : Int), y] = d' := Option.some.inj hd
      rw [Nat.zero_add] at hd
      subst hd
      exact new_yld ex.wf h2 (by simp only [Rep]) ru
end
section
variable {X : Cx} {W : WX} {ft : FT} {pos p : Pos} {l r : Expr} {a b : E}
theorem one_ok {t : TE} {σ : L2.St} {H : Hp} {Q : List V → Hp → Prop} (h : t σ H fun v H1 => Q [v] H1) : tCons t tNil σ H Q := h
theorem s_enum {tes : List Expr} {kk : Nat} {tpos : Pos} (hg : Gl X "enumerate") (hm : X.mg "enumerate" = none) (hp : plainE l = true) (ha : PE X l (TEv X.K W ft a)) : PI X (.Tuple tes kk tpos) (.Call (.Name "enumerate" p) [l] [] pos) (TIv X.K W ft (.enum a)) := by
  have h1 := pi_enum (p := p) (pos := pos) (tpos := tpos) (elts := tes) (kk := kk) hg hm (pa_cons ha pa_nil (star_cons hp)) (star_cons hp)
  have h2 := pi_en (p := p) (pos := pos) (tpos := tpos) (elts := tes) (kk := kk) hg hm (pa_cons ha pa_nil (star_cons hp)) (star_cons hp)
  refine ((h1.or h2).imp fun σ H R h => ?_)
  rcases src_case (f := fun d => (seqD d).map enD) h with h | ⟨x, xs, e, k⟩
  · exact .inl (one_ok (h _))
  cases e1 : seqD x with
  | none => rw [e1] at e; cases e
  | some zs =>
    rw [e1] at e
    have e : zs.zipIdx.map (fun p => D.tup [.int p.2, p.1]) = xs := Option.some.inj e
    subst e
    have li : (∀ v H' μ' Ω', Rep X.K (Fz H' μ' Ω') μ' Ω'.length x v → ∃ b vs, v = .ref b ∧ Reps X.K (Fz H' μ' Ω') μ' Ω'.length zs vs ∧ SqL X.K H' b vs) ∨ (∀ v H' μ' Ω', Rep X.K (Fz H' μ' Ω') μ' Ω'.length x v → ∃ b vs, v = .ref b ∧ Reps X.K (Fz H' μ' Ω') μ' Ω'.length zs vs ∧ SqT X.K H' b vs) := by
      cases x with
      | lst ys => cases e1; exact .inl fun v H' μ' Ω' rr => by obtain ⟨p, vs, rfl, _⟩ := view0 rr; obtain ⟨vs, h1, h2⟩ := lst_sq rr; exact ⟨p, vs, rfl, h1, h2⟩
      | scr ys => cases e1; exact .inl fun v H' μ' Ω' rr => by obtain ⟨p, rfl, _⟩ := view0 rr; obtain ⟨vs, h1, h2⟩ := scr_sq rr; exact ⟨p, vs, rfl, h1, h2⟩
      | tup ys => cases e1; exact .inr fun v H' μ' Ω' rr => by obtain ⟨p, vs, rfl, _⟩ := view0 rr; obtain ⟨vs, h1, h2⟩ := tup_sq rr; exact ⟨p, vs, rfl, h1, h2⟩
      | e0 => cases e1; exact .inr fun v H' μ' Ω' rr => by obtain ⟨p, rfl, _⟩ := view0 rr; obtain ⟨vs, h1, h2⟩ := e0_sq rr; exact ⟨p, vs, rfl, h1, h2⟩
      | _ => cases e1
    rcases li with li | li
    · refine .inl (one_ok (k _ fun v H1 μ1 Ω1 w r1 q => ?_))
      obtain ⟨b, vs, rfl, _, sq⟩ := li _ _ _ _ r1
      exact ⟨b, vs, rfl, sq, q _ (it_enum r1 fun H' μ' Ω' rr => by obtain ⟨b', vs, e, h1, h2⟩ := li _ _ _ _ rr; cases e; exact ⟨vs, h1, h2⟩)⟩
    · refine .inr (one_ok (k _ fun v H1 μ1 Ω1 w r1 q => ?_))
      obtain ⟨b, vs, rfl, _, sq⟩ := li _ _ _ _ r1
      exact ⟨b, vs, rfl, sq, q _ (it_enT r1 fun H' μ' Ω' rr => by obtain ⟨b', vs, e, h1, h2⟩ := li _ _ _ _ rr; cases e; exact ⟨vs, h1, h2⟩)⟩
end
end Rf
end
section
namespace Rf
open PySem L2 PyProof.Rows
theorem ZSt.keep {q z TI TO i1 i2 a b : Addr} {i : Nat} {h h' : Heap} (st : ZSt q z TI TO i1 i2 a b i h) (hq : ∀ c, c ∈ [z, TI, TO, i1, i2] → c ≠ q) (k : ∀ c o, c ≠ q → h.get? c = some o → h'.get? c = some o) : ZSt q z TI TO i1 i2 a b i h' := by
  obtain ⟨s1, s2, s3, ⟨so, s0⟩, s4⟩ := st
  refine ⟨k _ _ (hq TI (by simp)) s1, s2.at fun o e => k _ o (hq i1 (by simp)) e, s3.at fun o e => k _ o (hq i2 (by simp)) e, ⟨so, k _ _ (hq TO (by simp)) s0⟩, ?_⟩
  rcases s4 with ⟨s4, x, y, s5⟩ | ⟨T, f, oT, s4, s5, r1, r2, r3, r4⟩
  · exact .inl ⟨k _ _ (hq z (by simp)) s4, x, y, k _ _ (hq TO (by simp)) s5⟩
  · exact .inr ⟨T, f, oT, k _ _ (hq z (by simp)) s4, k _ _ r4 s5, r1, r2, r3, r4⟩
section
variable {X : Cx} {pins : List (Addr × Obj)} {σ : L2.St}
end
end Rf
end
section
namespace Rf
open PySem L2 PyProof.Rows
theorem kiO_ok {P : Program} {w : World} {H : Hp} {h : Heap} {d it : Addr} {o : Obj} {es : Array DictEntry} {ep : Nat} (hd : o.data = .dict es ep) (e : h.get? it = some (kiObj d es ep)) : ObjOk P w H h it (KiO d it o) :=
  ⟨⟨es, ep, hd, e⟩, ⟨_, e⟩, fun _ _ q k => let ⟨a, b, c, d⟩ := q; ⟨a, b, c, k _ d⟩⟩
theorem newest {X : Cx} {pins : List (Addr × Obj)} {σ : L2.St} {H : Hp} {s : Shared} (I : Inv X pins σ H s) : Newest H s.heap.objs.size :=
  ⟨I.hok.fresh (Nat.le_refl _), fun q o h => by obtain ⟨u, e⟩ := objOk_get (I.hok q o h); exact Heap.lt_size e⟩
section
variable {X : Cx}
theorem call_iterD : CallR X (.builtin "iter") (rIterD X.base.objs.size) := by
  intro pins s σ H xs us Q I r h
  obtain ⟨d, o, kvs, rfl, hd, k⟩ := h
  obtain ⟨u, rfl, ru⟩ := vals1 r
  cases ru
  obtain ⟨hs, hgd, hx, es, ep, vs, hdt, hsz, kv, hm⟩ := I.frzK hd
  refine Calls.call_function_entry (by decide +kernel) (by decide +kernel) PySem.W.kdk_entry_iter (PySem.W.kdk_args_iter _) ?_
  unfold Builtin.«iter»
  refine wpAny_bind (m := someArgs "iter" 1 2 _) (wpAny_of_eq (a := [Value.ref d]) (by first | rfl | kernel_rfl!) ?_)
  show wpAny _ _ (pyIter (.ref d) >>= _) _ _ _
  refine wpAny_bind (iter_keys hs hgd hx hdt (wpAny_pure ⟨_, rfl, ?_⟩))
  exact ⟨.ref s.heap.objs.size, _, I.laid (t' := s.toks) (fun b u e => Heap.get?_push_of_some _ e) (Nat.le_refl _) (kiO_ok hdt (Heap.get?_push_size _ rfl)), rfl, k _ (newest I) (Nat.le_trans I.ok.bsz I.sz)⟩
end
section
variable {P : Program} {w : World} {K : Frg} {mg : Str → Option Value} {base : Heap} {x qual nm : Str} {params : Arguments} {body : List Stmt} {scope : Scope} {dvs : List V} {kws : List (Str × V)} {f C : Addr} {fd : FuncData} {g : Str} {p1 p2 p3 p4 p5 : Pos}
theorem iter_def {k : Nat} (F : FunD K nm qual params [.Return (some (.Call (.Name "iter" p1) [.Attribute (.Name x p2) g p3] [] p4)) p5] scope dvs kws f fd) (S : FnScope [x] [x] scope) (gl : scope.names.lookup ("iter" : Str) = some .globalImplicit) (hm : mg "iter" = none)
    (hx : (x == ("__debug__" : Str)) = false) (hx2 : (x == ("__classdict__" : Str)) = false) (cl : Cls K C) (na : NoAttr K C g) : FnOk P w K mg base (L2.CX P w) (k + 1) f fd [x] (spIter base.objs.size C g) := by
  have hv : Vis scope x := by
    rcases S.par x (by simp) with q | q
    · exact .inl q
    · exact .inr (.inl q)
  refine F.ok S (fun vs H Q E h => ?_) fun cdv A outer s H vs Q E hr h => ?_
  · obtain ⟨a, dx, fs, d, o, kvs, rfl, _⟩ := h
    rfl
  · let X := cxOf (L2.CX P w) P w K mg base [x] qual scope f cdv A outer s H E
    have e1 : PE X (.Name x p2) (tVar 0) := pe_var (i := 0) rfl hv hx hx2
    have e2 : PE X (.Attribute (.Name x p2) g p3) (tFld X.K (tVar 0) g) := pe_fld e1 (base_ok rfl)
    have e3 : PE X (.Call (.Name "iter" p1) [.Attribute (.Name x p2) g p3] [] p4) (tCB (rIterD X.base.objs.size) (tCons (tFld X.K (tVar 0) g) tNil)) := pe_callB call_iterD gl hm (by decide +kernel) (pa_cons e2 pa_nil)
    refine ⟨_, pss_one (ps_ret e3), ?_⟩
    obtain ⟨a, dx, fs, d, o, kvs, rfl, h1, h2, h3, h4⟩ := h
    exact ⟨.ref a, rfl, a, C, dx, fs, _, rfl, h1, cl, na, h2, d, o, kvs, rfl, h3, h4⟩
end
end Rf
end
section
namespace Rf
open PySem L2 PyProof.Rows
theorem call_lenF {X : Cx} : CallR X (.builtin "len") (fun xs H Q => ∃ d o kvs, xs = [.ref d] ∧ H d = some (.frz o (.dK kvs)) ∧ Q (.int kvs.length) H) := by
  intro pins s σ H xs us Q I r h
  obtain ⟨d, o, kvs, rfl, hd, k⟩ := h
  obtain ⟨u, rfl, ru⟩ := vals1 r
  cases ru
  exact d_len I (.inr ⟨o, hd⟩) fun t s' I' => ⟨.int kvs.length, H, I', ⟨t, rfl⟩, k⟩
section
variable {P : Program} {w : World} {K : Frg} {mg : Str → Option Value} {base : Heap} {x qual nm : Str} {params : Arguments} {body : List Stmt} {scope : Scope} {dvs : List V} {kws : List (Str × V)} {f C : Addr} {fd : FuncData} {g : Str} {p1 p2 p3 p4 p5 : Pos}
theorem len_def {k : Nat} (F : FunD K nm qual params [.Return (some (.Call (.Name "len" p1) [.Attribute (.Name x p2) g p3] [] p4)) p5] scope dvs kws f fd) (S : FnScope [x] [x] scope) (gl : scope.names.lookup ("len" : Str) = some .globalImplicit) (hm : mg "len" = none)
    (hx : (x == ("__debug__" : Str)) = false) (hx2 : (x == ("__classdict__" : Str)) = false) (cl : Cls K C) (na : NoAttr K C g) : FnOk P w K mg base (L2.CX P w) (k + 1) f fd [x] (spLen C g) := by
  have hv : Vis scope x := by
    rcases S.par x (by simp) with q | q
    · exact .inl q
    · exact .inr (.inl q)
  refine F.ok S (fun vs H Q E h => ?_) fun cdv A outer s H vs Q E hr h => ?_
  · obtain ⟨a, dx, fs, d, o, kvs, rfl, _⟩ := h
    rfl
  · let X := cxOf (L2.CX P w) P w K mg base [x] qual scope f cdv A outer s H E
    have e1 : PE X (.Name x p2) (tVar 0) := pe_var (i := 0) rfl hv hx hx2
    have e2 : PE X (.Attribute (.Name x p2) g p3) (tFld X.K (tVar 0) g) := pe_fld e1 (base_ok rfl)
    have e3 : PE X (.Call (.Name "len" p1) [.Attribute (.Name x p2) g p3] [] p4) (tCB _ (tCons (tFld X.K (tVar 0) g) tNil)) := pe_callB call_lenF gl hm (by decide +kernel) (pa_cons e2 pa_nil)
    refine ⟨_, pss_one (ps_ret e3), ?_⟩
    obtain ⟨a, dx, fs, d, o, kvs, rfl, h1, h2, h3, h4⟩ := h
    exact ⟨.ref a, rfl, a, C, dx, fs, _, rfl, h1, cl, na, h2, d, o, kvs, rfl, h3, h4⟩
end
section
variable {X : Cx} {pins : List (Addr × Obj)} {σ : L2.St} {H : Hp} {s : Shared} {C : Addr} {g : Str} {n : Nat} {fi fl : Addr} {fdI fdL : FuncData} {psI psL : List Str}
theorem cx_false {P : Program} {w : World} {st : List PySem.Env} {e : Value} {s s' : Shared} {H : Hp} (h : L2.CX P w st H s (fun _ _ _ => False) e s') : False := by
  obtain ⟨a, B, H', cls, d, rfl, fl, hok, ub, na, os, ag, hE⟩ := h
  exact hE
end
end Rf
end
section
namespace Rf
open PySem L2
section
variable {K : Frg} {W : WX} {ft : FT} {σ : St} {H : Hp} {μ : Mu} {Ω : Sto} {ρ : Env}
theorem hide_env {p : Addr} {o : HO} (w : Wf K H μ Ω) (hp : H p = none) (h : REnv K (Fz H μ Ω) μ Ω.length ρ σ) : REnv K (Fz (upd H p o) (μ.hide p) Ω) (μ.hide p) Ω.length ρ σ :=
  h.tr (Tr.of_le (G := Fz H μ Ω) (μ := μ) (G' := Fz (upd H p o) (μ.hide p) Ω) (μ' := μ.hide p) (fun a u q => by rw [Fz.hide w hp]; exact q) (fun _ _ => rfl) (Nat.le_refl _))
theorem ev_ok {a : E} {x : D} {Ω' : Sto} (at_ : At K σ H μ Ω ρ) (e : evE ft a ρ Ω = .ok x Ω') {Q : VK} (q : ∀ v H' μ', Ext K H μ Ω H' μ' Ω' → Rep K (Fz H' μ' Ω') μ' Ω'.length x v → Q v H') : TEv K W ft a σ H Q :=
  ⟨μ, Ω, ρ, at_, by rw [e]; exact fun v H' μ' ex r => q v H' μ' ex r⟩
theorem upd_upd {p : Addr} {a b : HO} : upd (upd H p a) p b = upd H p b := by
  funext x
  by_cases e : x = p
  · rw [e, upd_same, upd_same]
  · rw [upd_ne e, upd_ne e, upd_ne e]
end
section
variable {X : Cx} {W : WX} {ft : FT} {pos : Pos} {ax bx kx vx : Expr} {a b k v : E}
end
end Rf
end
section
namespace Rf
open PySem L2
theorem MutN.nt {o : HO} (h : MutN (some o)) : NoT o := fun ps z => by rw [z] at h; exact h
section
variable {K : Frg} {H H' : Hp} {μ μ' : Mu} {Ω Ω' : Sto} {k : Nat}
end
end Rf
end
section
namespace Rf
open PySem L2 PyProof.Rows
theorem zip_lookup {α : Type} : ∀ {ps : List Str} {us : List α} {x : Str}, us.length = ps.length → x ∈ ps → ∃ v, (ps.zip us).lookup x = some v
  | [], us, x, _, h => by cases h
  | p :: ps, [], x, hl, _ => by cases hl
  | p :: ps, u :: us, x, hl, h => by
    show ∃ v, (match x == p with | true => some u | false => (ps.zip us).lookup x) = some v
    cases q : (x == p) with
    | true => exact ⟨u, rfl⟩
    | false =>
      refine zip_lookup (by simpa using hl) ?_
      rcases List.mem_cons.mp h with e | e
      · rw [e] at q; simp at q
      · exact e
theorem fm_congr {α β : Type} {f g : α → Option β} : ∀ {l : List α}, (∀ x, x ∈ l → f x = g x) → l.filterMap f = l.filterMap g
  | [], _ => rfl
  | a :: l, h => by
    rw [List.filterMap_cons, List.filterMap_cons, h a (List.mem_cons_self ..), fm_congr fun x hx => h x (List.mem_cons_of_mem _ hx)]
theorem zip_map {α : Type} : ∀ {ps : List Str} {us : List α}, us.length = ps.length → ps.Nodup → ps.filterMap (fun n => ((ps.zip us).lookup n).map (n, ·)) = ps.zip us
  | [], us, hl, _ => by cases us <;> rfl
  | p :: ps, [], hl, _ => by cases hl
  | p :: ps, u :: us, hl, nd => by
    have hp : p ∉ ps := (List.nodup_cons.mp nd).1
    have ih := zip_map (ps := ps) (us := us) (by simpa using hl) (List.nodup_cons.mp nd).2
    rw [List.filterMap_cons]
    have e1 : List.lookup p ((p :: ps).zip (u :: us)) = some u := by
      show (match p == p with | true => some u | false => _) = some u
      simp
    rw [e1]
    show (p, u) :: _ = (p, u) :: ps.zip us
    congr 1
    rw [← ih]
    refine fm_congr fun x hx => ?_
    have : (x == p) = false := by
      cases q : (x == p) with
      | false => rfl
      | true => have e : x = p := by simpa using q
                rw [e] at hx; exact absurd hx hp
    show Option.map _ (match x == p with | true => some u | false => (ps.zip us).lookup x) = _
    rw [this]
theorem bind_plain {fd : FuncData} {ps : List Str} {us : List Value} (h1 : fd.params.posonlyargs = []) (h2 : fd.params.vararg = none) (h3 : fd.params.kwonlyargs = []) (h4 : fd.params.kwarg = none) (hd : fd.defaults = .none) (hn : fd.params.args.map (·.arg) = ps)
    (nd : ps.Nodup) (hl : us.length = ps.length) : bindArgs fd ⟨us, []⟩ = pure (ps.zip us) := by
  have hs : seqItems? Value.none = pure none := rfl
  have hm : (List.filter (fun n => (List.lookup n (ps.zip us)).isNone) ps) = [] := by
    rw [List.filter_eq_nil_iff]
    intro x hx
    obtain ⟨v, e⟩ := zip_lookup hl hx
    rw [e]
    simp
  unfold bindArgs
  simp only [h1, h2, h3, h4, hd, hn, hs, List.map_nil, List.nil_append, pure_bind, List.forIn_nil, List.append_nil]
  have hlt : ¬ (us.length > ps.length) := by omega
  simp [hlt, hm, zip_map hl nd]
theorem bind_plainK {fd : FuncData} {x f : Str} {a v : Value} (h1 : fd.params.posonlyargs = []) (h2 : fd.params.vararg = none) (h3 : fd.params.kwonlyargs = []) (h4 : fd.params.kwarg = none) (hd : fd.defaults = .none) (hn : fd.params.args.map (·.arg) = [x, f])
    (nd : x ≠ f) : bindArgs fd ⟨[a], [(f, v)]⟩ = pure [(x, a), (f, v)] := by
  have hs : seqItems? Value.none = pure none := rfl
  have e1 : (f == x) = false := by simpa using (Ne.symm nd)
  have e2 : (x == f) = false := by simpa using nd
  unfold bindArgs
  simp only [h1, h2, h3, h4, hd, hn, hs, List.map_nil, List.nil_append, pure_bind, List.forIn_nil, List.forIn_cons, List.append_nil]
  simp [List.lookup, e1, e2]
section
open PySem.W
variable {prog : Program} {w : World} {A : Around} {E : Value → Shared → Prop} {h : Heap} {g : Array GenState} {d : Drawn} {t : Nat} {os : OsState}
variable {nm q : Str} {C N : Addr} {bs bm : List Value} {hdct : Bool} {sn : List Str} {sub : List Value} {ab : Bool} {col : Option Bool} {dd : Option Addr} {k0 k1 k2 k3 k5 : Option Value}
theorem call_bwV {u e t0 : Addr} {rest : List Value} {Q : Value → Shared → Prop}
    (hC : h.get? C = some (excClassObj nm q C N bs bm hdct sn sub ab col dd k0 k1 k2 k3 k5 "ValueError.__new__")) (he : h.get? e = some (HandSPX.excO C t0)) (hu : h.get? u = some (kxs_mw "ValueError.__init__" e)) (hrest : rest.length ≤ sizeLine)
    (hq : ∀ h' t1, (∀ b o, b ≠ e → h.get? b = some o → h'.get? b = some o) → h'.get? e = some (HandSPX.excO C t1) → Q .none ⟨h', g, d, t, os⟩) :
    wpAny (model prog w) A (call (.ref u) rest) Q E ⟨h, g, d, t, os⟩ := by
  refine wpAny_call (codeAny_of_tree ?_)
  show wpAny _ A.in1 (callAny (.ref u) ⟨rest, []⟩) _ _ _
  simp only [callAny]
  refine wpAny_bind (wpAny_load hu ?_)
  simp only [kxs_mw, show (Value.type "method-wrapper" == Value.type "method" || Value.type "method-wrapper" == Value.type "builtin_function_or_method" || Value.type "method-wrapper" == Value.type "method-wrapper") = true by decide, if_true]
  refine W.KFB.if_so (by decide) ?_
  refine wpAny_bind (ESX.check_bound F.excBase_ValueError hC he rfl ?_)
  refine wpAny_bind (wpAny_pure (wpAny_pure ?_))
  refine ⟨Code.quiet_builtin _ (by decide +kernel), codeAny_builtin F.excBase_ValueError.initEntry ?_⟩
  rw [Around.under_plainId F.excBase_ValueError.init.plain _]
  wp_walk
  refine hq _ h.objs.size (fun b o hb ho => ?_) ?_
  · rw [Heap.get?_update_other _ _ (Ne.symm hb)]
    exact Heap.get?_push_of_some _ ho
  · rw [Heap.get?_update_self _ (Heap.get?_push_of_some _ he) rfl]
    rfl
end
theorem boot_super : bootBuiltins "super" = some (.type "super") := by first | rfl | kernel_rfl
section
variable {P : Program} {K : Frg} {C fI cc c : Addr} {g : Option Str} {qual : Str} {params : Arguments} {body : List Stmt} {scope : Scope}
theorem xsup (XI : XIn P K C fI cc c g qual params body scope) {X : Cx} {pins : List (Addr × Obj)} {σ : L2.St} {H : Hp} {s : Shared} {a L : Addr} {p0 p1 p2 p3 p4 p5 : Pos} {tx : Str} {kd : Nat} {Q : Flow → Shared → Prop}
    (hP : X.prog = P) (hK : X.K = K) (hE : X.env = NdefX.envF (XIn.nf qual params body scope cc c) fI L) (hm : X.mg "super" = none) (hN : X.N[0]? = some ("self" : Str)) (I : Inv X pins σ H s) (hs : σ[0]? = some (some (.ref a))) (ha : H a = some (exo a C none))
    (hl : (p2.endLine == p3.line) = true) (hq : ∀ s', Inv X pins σ H s' → Q .next s') :
    PySem.wpAt (model X.prog X.w) X.A (.func body X.env) (exec (.Expr (.Call (.Attribute (.Call (.Name "super" p0) [] [] p1) "__init__" p2) [.Constant (.str tx) kd p5] [] p3) p4) X.env) Q X.xe s := by
  subst hP
  subst hK
  have ok := I.ok
  have KX := I.kIn
  obtain ⟨oc, od, doc, pm, an, ct, osl, lk⟩ := XI.fn
  obtain ⟨ccl, cdd, vs, ccs, file, tf, lc, hvs, hfile⟩ := XI.file
  obtain ⟨cl, cld, csl, lcell⟩ := XI.cell
  obtain ⟨nm, q, N, bs, bm, sn, sub, ab, col, dd, k0, k1, k2, k3, k5, hC, hbm⟩ := XI.T.cls
  have hcl : PySem.W.clsIn X.K C = some { name := nm, bases := bs, mro := .ref C :: bm, ns := N, qualname := q, hasDict := true, slotNames := sn, subclasses := sub, abstract := ab, collection := col, hasDel := false } := by unfold PySem.W.clsIn; rw [hC] <;> rfl
  obtain ⟨t1, ho⟩ := exo_at I.hok ha
  have hk : X.env.scope.kind = .function := ok.kind
  have ev : ∀ x, X.env.kindOf x = scope.names.lookup x := fun x => by rw [hE]; rfl
  have hks : X.env.kindOf "super" = some .globalImplicit := by rw [ev]; exact XI.sg
  have hkc : X.env.kindOf "__class__" = some .free := by rw [ev]; exact XI.sc.frk _ (List.mem_cons_self ..)
  have hka : X.env.kindOf "self" = some .local := by rw [ev]; exact XI.sc.par _ (List.mem_cons_self ..)
  have hpar : ∃ ar, (params.posonlyargs ++ params.args).head? = some ar ∧ ar.arg = "self" := by
    obtain ⟨h1, _, _, _, h5, _⟩ := XI.par
    rw [h1]
    cases e : params.args with
    | nil => rw [e] at h5; cases h5
    | cons ar r =>
      rw [e, List.map_cons] at h5
      injection h5 with h5 _
      exact ⟨ar, rfl, h5⟩
  obtain ⟨ar, har, harn⟩ := hpar
  obtain ⟨m, hns, hlo⟩ := id I.loc
  have hself : m "self" = some (.ref a) := by
    obtain ⟨u, ru, k⟩ := hlo 0 "self" _ hN hs (.inl hka)
    obtain rfl : u = Value.ref a := ru
    rcases k with ⟨_, k⟩ | ⟨k, _⟩
    · exact k
    · rcases k with k | k <;> rw [hka] at k <;> cases k
  have gl : s.heap.Ns X.env.globals X.mg := by rw [ok.glob]; exact ok.mod.glob.keeps I.bk
  obtain ⟨mb, hmb, hbb⟩ := ok.mod.blt
  have bl : s.heap.Ns X.env.builtins mb := by rw [ok.blt]; exact hmb.keeps I.bk
  have hbv : mb "super" = some (.type "super") := (hbb _ (by decide +kernel)).trans boot_super
  have hcc : X.env.cells.lookup ("__class__" : Str) = some cc := by rw [hE]; rfl
  have hcellv : s.heap.IsCell cc (some (.ref C)) := ⟨_, KX _ _ lcell, rfl⟩
  have IA : PySem.W.InstAt s.heap a { cls := .ref C, dict := none, data := .fields #[.ref t1, .none, .none, .none, .bool false, .none] } C none := ⟨ho, rfl, rfl, trivial⟩
  have hCg : s.heap.get? C = some (excClassObj nm q C N bs bm true sn sub ab col dd k0 k1 k2 k3 k5 "ValueError.__new__") := KX _ _ hC
  refine ks_wpAt_Expr_any ?_ I.quiet rfl
  have tree : eval (.Call (.Attribute (.Call (.Name "super" p0) [] [] p1) "__init__" p2) [.Constant (.str tx) kd p5] [] p3) X.env = (do
      let ov ← attributeBase (.Call (.Name "super" p0) [] [] p1) "__init__" X.env (eval (.Call (.Name "super" p0) [] [] p1) X.env)
      standAt p2.atName
      let (f, first) ← holding [ov] (getMethod ov "__init__" (do return (← importBound (.Call (.Name "super" p0) [] [] p1) X.env).getD true))
      callWith p3 f first (backTo p3 (starEach [.Constant (.str tx) kd p5] X.env)) []) := by
    rw [arm_eval_Call]
    have hf : methodCallForm ([Expr.Constant (.str tx) kd p5].length + ([] : List Keyword).length) (backTo p3 (starEach [.Constant (.str tx) kd p5] X.env)) (backToKw p3 (keywordEach [] X.env)) = true := few_ok rfl (by show 1 < 30; decide)
    have hpos : methodCallPos true (.Call (.Name "super" p0) [] [] p1) X.env p2 p3 = pure p3 := by unfold methodCallPos; simp [hl]
    unfold methodCall calleeOf
    rw [hf]
    simp only [if_true, hpos, pure_bind]
    rfl
  refine ks_wpAt_MethodCall ?_ tree
  obtain ⟨hh, gg, dr, tk, oss⟩ := s
  refine ks_wpAt_super_base (of := _) (fd := PySem.W.fnX "__init__" qual params body scope [("__class__", cc)] .none .none doc pm an (.ref c) ct) hks hkc (by decide) (by rw [hE]) (KX _ _ lk) rfl har (by rw [hE]) (KX _ _ lc) rfl hvs hfile XI.top ?_
  refine PySem.W.ks_loadName_global hk hks (Calls.loadGlobal_builtin gl hm bl hbv ⟨rfl, ?_⟩)
  refine wpAny_loadName_free hk hkc hcc hcellv ?_
  rw [harn]
  refine wpAny_loadName_local hk hka hns hself ?_
  refine ks_wpAny_isType_cls hCg rfl ⟨rfl, ?_⟩
  refine ks_wpAny_call_super hCg rfl ho rfl (fun c e => by cases e) (PySem.W.looks_mroIn KX XI.mr) (fun h1 e1 keep1 => ?_)
  have I1 : Inv X pins σ H ⟨h1, gg, dr, tk, oss⟩ := I.kept (t' := tk) (h' := h1) keep1
  have ne : a ≠ C := fun z => by rw [z] at ho; rw [hCg] at ho; cases ho
  have KX1 := I1.kIn
  have hsup := XI.sup
  unfold PySem.W.ks_superIn at hsup
  rw [hcl] at hsup
  have IA1 : PySem.W.InstAt h1 a { cls := .ref C, dict := none, data := .fields #[.ref t1, .none, .none, .none, .bool false, .none] } C none := ⟨keep1 _ _ ho, rfl, rfl, trivial⟩
  refine PySem.W.kxs_getMethod PySem.W.kxs_ValueError e1 (PySem.W.looks_opaque KX1 XI.op) (l₀ := .ref C :: bm) (fun A Q E s k q => wpAny_bind ((PySem.W.looks_clsIn KX1 hcl) A _ E s k (wpAny_pure q))) rfl KX1 hsup (IA1.type.andThen (PySem.W.looks_subIn KX1 XI.sb)) ne (by decide) ?_
  have I2 : Inv X pins σ H ⟨h1.push (PySem.W.kxs_mw "ValueError.__init__" a), gg, dr, tk + 1, oss⟩ := I1.kept (t' := tk + 1) fun b o e => Heap.get?_push_of_some _ e
  have hu : (h1.push (PySem.W.kxs_mw "ValueError.__init__" a)).get? h1.objs.size = some (PySem.W.kxs_mw "ValueError.__init__" a) := Heap.get?_push_at rfl rfl
  show wpAny _ _ (callWith p3 (.ref h1.objs.size) [] (backTo p3 (starEach [.Constant (.str tx) kd p5] X.env)) []) _ _ _
  have star : starEach [Expr.Constant (.str tx) kd p5] X.env = (false, eval (.Constant (.str tx) kd p5) X.env) :: starEach [] X.env := rfl
  rw [star]
  refine PySem.W.kxs_callWith (i := "ValueError.__init__") (x := a) rfl (Calls.evalArgs_plain ?_)
  have I2p : Inv X ((h1.objs.size, PySem.W.kxs_mw "ValueError.__init__" a) :: pins) σ H ⟨h1.push (PySem.W.kxs_mw "ValueError.__init__" a), gg, dr, tk + 1, oss⟩ := I2.pins_of fun p hp => by
    rcases List.mem_cons.mp hp with e | hp
    · subst e
      exact ⟨hu, I1.hok.fresh (Nat.le_refl _), (Nat.ne_of_lt I1.lt).symm, I1.nofs (Nat.le_refl _), fun v z => by cases z⟩
    · exact I2.pin p (List.mem_append_right _ hp)
  refine Calls.spliced_cons (wpAny_mono ((pe_str (X := X) (x := tx) (j := kd) (pos := p5)).run _ _ σ H (fun v H1 => H1 = H) I2p rfl) (fun v s3 hv => ?_) fun _ _ z => z)
  obtain ⟨x, H1, I3, rx, eH⟩ := hv
  subst eH
  have hu3 := (I3.pin _ (List.mem_append_right _ (List.mem_cons_self ..))).1
  have I4 : Inv X pins σ H1 s3 := I3.pins_of fun p hp => I3.pin p (List.mem_append_right _ (List.mem_cons_of_mem _ hp))
  refine Calls.spliced_nil ⟨hu3, ?_⟩
  obtain ⟨t3, ho3⟩ := exo_at I4.hok ha
  obtain ⟨h3, g3, d3, tk3, os3⟩ := s3
  refine call_bwV (I4.kIn _ _ hC) ho3 hu3 (by rw [sizeLine_eq]; show 1 ≤ _; omega) fun h4 t4 keep4 he4 => ?_
  have J := I4.write (t' := tk3) (x := a) (e := a) (o := exo a C none) (by rw [ha]; exact True.intro) (.inl rfl) keep4 ⟨_, he4⟩ (exo_ok he4)
  have eu : upd H1 a (exo a C none) = H1 := by
    funext b
    by_cases hb : b = a
    · rw [hb, upd_same, ha]
    · rw [upd_ne hb]
  rw [eu] at J
  exact hq _ J
theorem xinit_ok {CX : CXT} {w : World} {mg : Str → Option Value} {base : Heap} {k : Nat} (XI : XIn P K C fI cc c g qual params body scope) (hm : mg "super" = none) :
    ∃ fd, FnOk P w K mg base CX (k + 1) fI fd (("self" : Str) :: g.toList) (spX C g) ∧ L2.Binds K fd (("self" : Str) :: g.toList) [] ∧ KwX K fd g := by
  obtain ⟨oc, od, doc, pm, an, ct, osl, lk⟩ := XI.fn
  have len : ∀ vs H Q E, spX C g vs H Q E → vs.length = (("self" : Str) :: g.toList).length := fun vs H Q E q => by
    cases g with
    | none => obtain ⟨a, rfl, _⟩ := q; rfl
    | some f => obtain ⟨a, v, rfl, _⟩ := q; rfl
  obtain ⟨h1, h2, h3, h4, h5, h6⟩ := XI.par
  refine ⟨PySem.W.fnX "__init__" qual params body scope [("__class__", cc)] .none .none doc pm an (.ref c) ct, ⟨len, fun A outer s H args us vs Q E hr e0 hb r hsp => ?_⟩, L2.Binds.all fun us hl => bind_plain h1 h2 h3 h4 rfl h5 h6 hl, fun f hg => ?kw⟩
  case kw =>
    subst hg
    refine ⟨fun s us ws X l1 l2 => BindsTo.of_looks fun M => PySem.W.Looks.of_pure ?_, fun r1 r2 => r1.append r2⟩
    match us, ws, l1, l2 with
    | [a], [v], _, _ => exact bind_plainK h1 h2 h3 h4 rfl h5 (by
        have := h6
        simp at this
        exact this)
  have KX : K.In s.heap := e0.mod.kin.keeps fun b o e => (e0.bs b o e).1
  have lim : s.heap.NoLimit := e0.mod.nolimit.keeps fun b o e => (e0.bs b o e).1
  have hl := len _ _ _ _ hsp
  obtain ⟨cl, cld, csl, lcell⟩ := XI.cell
  have CA : NdefX.CellsAt [(("__class__" : Str), cc)] [("__class__" : Str)] [none] s.heap H := by
    have one : ∀ {y c'}, ([(("__class__" : Str), cc)] : List (Str × Addr)).lookup y = some c' → y = "__class__" ∧ c' = cc := fun {y c'} e => by
      have m := PySem.mem_of_lookup e
      have m := List.mem_singleton.mp m
      cases m
      exact ⟨rfl, rfl⟩
    refine ⟨rfl, fun y c' e => ?_, fun x y c' e1 e2 => (one e1).1.trans (one e2).1.symm, fun i y e => ?_⟩
    · rw [(one e).2]
      exact ⟨(e0.bs _ _ (e0.mod.kin _ _ lcell)).2, _, ⟨_, KX _ _ lcell, rfl⟩⟩
    · cases i with
      | zero =>
        have e : some ("__class__" : Str) = some y := e
        cases e
        exact ⟨cc, rfl, fun v z => by cases z⟩
      | succ i => simp at e
  refine ks_codeAny_call_defAt (binds := (("self" : Str) :: g.toList).zip us) hr.depth (KX _ _ lk) rfl lim (PySem.W.codeRec_of KX XI.cd) rfl hb XI.sc.nocell (fun ⟨n, v⟩ hy => XI.sc.par n (List.of_mem_zip hy).1) (fun h₁ hns kp => ?_) XI.sc.co XI.sc.gen XI.sc.kind
  have I : Inv (NdefX.ncx CX P w K mg base (("self" : Str) :: g.toList ++ [("__class__" : Str)]) (XIn.nf qual params body scope cc c) fI A outer s H E) [] (NdefX.startF (("self" : Str) :: g.toList ++ [("__class__" : Str)]) vs [none]) H { s with heap := h₁, toks := s.toks + ((("self" : Str) :: g.toList).zip us).length } :=
    NdefX.inv_startN XI.sc hr.hd e0 hl r CA hns kp
  generalize hX : NdefX.ncx CX P w K mg base (("self" : Str) :: g.toList ++ [("__class__" : Str)]) (XIn.nf qual params body scope cc c) fI A outer s H E = X at I
  have eP : X.prog = P := by rw [← hX]; rfl
  have eK : X.K = K := by rw [← hX]; rfl
  have ew : X.w = w := by rw [← hX]; rfl
  have em : X.mg "super" = none := by rw [← hX]; exact hm
  have eE : X.env = NdefX.envF (XIn.nf qual params body scope cc c) fI s.heap.objs.size := by rw [← hX]; rfl
  have eN : X.N = (("self" : Str) :: g.toList ++ [("__class__" : Str)]) := by rw [← hX]; rfl
  have fin : ∀ {fl : Flow} {s' : Shared}, SP X [] { nx := fun _ H' => Q .non H', rt := Q } fl s' → CR CX outer P w H s Q E (.ok (.ret (match fl with | .ret v => v | _ => .none))) s' := fun {fl s'} hs => by
    have done : ∀ {σ' : L2.St} {H' : Hp} {v : V} {u : Value}, Inv X [] σ' H' s' → L2.RelV v u → Q v H' → CE outer P w H s Q u s' := fun {σ' H' v u} J rv q => by
      subst hX
      exact ⟨v, H', J.os, J.bare, J.base, J.hok, rv, q⟩
    cases fl with
    | ret u =>
      obtain ⟨v, σ', H', J, rv, q⟩ := hs
      exact done J rv q
    | next =>
      obtain ⟨σ', H', J, q⟩ := hs
      exact done (v := V.non) (u := Value.none) J rfl q
    | brk =>
      obtain ⟨_, _, _, q⟩ := hs
      exact False.elim q
    | cont =>
      obtain ⟨_, _, _, q⟩ := hs
      exact False.elim q
  obtain ⟨p0, p1, p2, p3, p4, t, kd, p5, rest, hbody, hl2, hrest⟩ := XI.bd
  have goal : PySem.wpAt (model X.prog X.w) X.A (.func body X.env) (execs body X.env) (fun f s' => CR CX outer P w H s Q E (.ok (.ret (match f with | .ret v => v | _ => .none))) s') X.xe { s with heap := h₁, toks := s.toks + ((("self" : Str) :: g.toList).zip us).length } := by
    have e2 : execs body X.env = execs (.Expr (.Call (.Attribute (.Call (.Name "super" p0) [] [] p1) "__init__" p2) [.Constant (.str t) kd p5] [] p3) p4 :: rest) X.env := by rw [hbody]
    rw [e2]
    have run : ∀ (a : Addr), H a = some (exo a C none) → (NdefX.startF (("self" : Str) :: g.toList ++ [("__class__" : Str)]) vs [none])[0]? = some (some (.ref a)) → (∃ tt : TS, PSs X rest tt ∧ tt { nx := fun _ H' => Q .non H', rt := Q } (NdefX.startF (("self" : Str) :: g.toList ++ [("__class__" : Str)]) vs [none]) H) →
        PySem.wpAt (model X.prog X.w) X.A (.func body X.env) (execs (.Expr (.Call (.Attribute (.Call (.Name "super" p0) [] [] p1) "__init__" p2) [.Constant (.str t) kd p5] [] p3) p4 :: rest) X.env) (fun f s' => CR CX outer P w H s Q E (.ok (.ret (match f with | .ret v => v | _ => .none))) s') X.xe { s with heap := h₁, toks := s.toks + ((("self" : Str) :: g.toList).zip us).length } := fun a ha hs ⟨tt, ht, hq⟩ => by
      refine ks_wpAt_execs_cons (xsup XI eP eK eE em (by rw [eN]; rfl) I hs ha hl2 fun s' J => ?_)
      exact wpAt_of_wpAny (wpAny_mono (ht.run [] s' _ H _ J hq) (fun fl s2 hsp => fin hsp) fun _ _ z => z)
    cases g with
    | none =>
      obtain ⟨a, rfl, ha, hq⟩ := hsp
      subst hrest
      exact run a ha rfl ⟨_, pss_nil, hq⟩
    | some f =>
      obtain ⟨a, v, rfl, ha, hq⟩ := hsp
      obtain ⟨q0, q1, q2, q3, rfl, hno, hdb, hcb⟩ := hrest
      have vis : ∀ x, x ∈ (("self" : Str) :: (some f).toList) → Vis X.env.scope x := fun x hx => .inl (by rw [eE]; exact XI.sc.par x hx)
      have e0 : X.N[0]? = some ("self" : Str) := by rw [eN]; rfl
      have e1 : X.N[1]? = some f := by rw [eN]; rfl
      refine run a ha rfl ⟨_, pss_one (ps_ost (pe_var e0 (vis _ (List.mem_cons_self ..))) (pe_var e1 (vis _ (List.mem_cons_of_mem _ (List.mem_cons_self ..))) hdb hcb)), ?_⟩
      refine ⟨v, rfl, .ref a, rfl, a, C, rfl, by rw [eK]; exact XI.T, by rw [eK]; exact hno, .inl ⟨ha, fun d hd ne => hq d hd ne⟩⟩
  subst hX
  exact goal
end
end Rf
end
section
namespace Rf
open PySem L2 PyProof.Rows
section
variable {X : Cx} {body : List Stmt} {h₀ : ExceptHandler} {hds : List ExceptHandler} {l : List Cl2} {pos : Pos} {tb : WX → TS} {Wout : WX}
theorem ps_try2 (hs : X.stack = X.env :: X.outer) (hf : X.env.frame = some X.env.locals) (hN : X.N.Nodup) (tk : Takes X Wout)
    (hb : ∀ (W : WX) (pn : List (Addr × Obj)) (xe : Value → Shared → Prop), Takes (X.tr pn xe) W → PassesOwn (model X.prog X.w) X.A X.env xe → PSs (X.tr pn xe) body (tb W))
    (hh : Hds2 X (h₀ :: hds) l) : PS X (.Try body (h₀ :: hds) [] [] pos) (fun D σ H => tb (fun cls d σ H => σ.length = X.N.length → wMany2 X.K Wout D l cls d σ H) D σ H) := by
  refine ⟨fun pins s σ H D I h => ?_⟩
  have ok := I.ok
  have hfr : X.A.frames = some (X.env :: X.outer) := by rw [ok.frames, hs]
  refine wpAny_Try_except ?_
  refine wpAny_mono ((hb (fun cls d σ H => σ.length = X.N.length → wMany2 X.K Wout D l cls d σ H) (X.pn ++ pins) (fun e s₁ => wpAny (model X.prog X.w) X.A (noteFrame e X.env) (fun _ s₂ => wpAny (model X.prog X.w) X.A (setFlight e none) (fun _ s₃ =>
    wpAny (model X.prog X.w) X.A (handleBy e X.env (h₀ :: hds)) (SP X pins D) X.xe s₃) X.xe s₂) X.xe s₁) (fun u s' xx => ?_) PassesOwn.looking).run [] s σ H D (I.toTry _) h) (fun f s1 hsp => ?_) (fun e s1 he => he)
  · obtain ⟨a, B, sI, pins', σ', H', cls, d, rfl, J', nb, up, sky, na, os, ag, w⟩ := xx
    have J : L2.Inv X pins σ' H' sI := J'.ofTry ok
    have w := w J.len
    have sky' : Sky B (X.env :: X.outer) a (Zc cls d) X.env.locals s'.heap := by rw [← hs]; exact sky
    show wpAny (model X.prog X.w) X.A (noteFrame (.ref a) X.env) _ _ _
    refine Sky.land Zc.steady hfr hf sky' fun h3 fl3 up3 => ?_
    have J3 : L2.Inv X pins σ' H' { s' with heap := h3 } := J.landed nb fl3.1 (up.trans up3) os ag
    obtain ⟨oe3, vs3, he3, hz3, hd3⟩ := fl3.there
    have notFr : ∀ {h : Heap} {o : Obj} {vs : Array Value}, h.FunFrames B (X.env :: X.outer) → h.get? a = some o → o.data = .fields vs → a ∉ frs (X.env :: X.outer) := fun {h o vs} ff e dd hm => by
      obtain ⟨_, o', e', hnf⟩ := ff.mem hm
      rw [e] at e'; cases e'
      exact hnf _ dd
    have nfr := notFr fl3.2.2.1 he3 hd3
    have nL : a ≠ X.env.locals := fun z => nfr (List.mem_filterMap.mpr ⟨X.env, List.mem_cons_self, by rw [hf, z]⟩)
    have nF : a ∉ X.fs := fun hm => by
      obtain ⟨e, he, q⟩ := List.mem_filterMap.mp hm
      exact nfr (List.mem_filterMap.mpr ⟨e, List.mem_cons_of_mem _ he, q⟩)
    have S3 := J3.suite he3 hd3 na nL nF
    have go : ∀ {hds' : List ExceptHandler} {l' : List Cl2}, Hds2 X hds' l' → wMany2 X.K Wout D l' cls d σ' H' →
        wpAny (model X.prog X.w) X.A (handleBy (.ref a) X.env hds') (SP X pins D) X.xe { s' with heap := h3 } := by
      intro hds' l' hk
      induction hk with
      | nil =>
        intro w
        refine wpAny_handleBy_nil ?_
        obtain ⟨k1, k2, k3, oe, vs, T, oT, ts', he, hz, hd, h1, hr⟩ := id fl3
        unfold PySem.passOn
        refine wpAny_bind (wpAny_field he hd h1 ?_)
        rw [if_neg (show ¬ ((Value.ref T == Value.none) = true) from by simp)]
        have fin : wpAny (model X.prog X.w) X.A (setFlight (.ref a) X.env.frame) (fun _ s4 => wpAny (model X.prog X.w) X.A (throw (.ref a) : Sem Flow) (SP X pins D) X.xe s4) X.xe { s' with heap := h3 } := by
          rw [hf]
          refine HandSPX.setFlight_upZ fl3 fun h4 hh4 up4 => wpAny_throw (tk _ _ ?_)
          exact ⟨a, B, sI, pins, σ', H', cls, d, rfl, J, nb, (up.trans up3).trans up4, .inr (.inr (by rw [hs]; exact hh4)), na, os, ag, w⟩
        first
          | exact wpAny_bind (wpAny_pure (wpAny_bind fin))
          | exact wpAny_bind fin
      | @cons x c nm i ts b₀ suite np pos' hds2 l2 hc hn hsu r ih =>
        intro w
        obtain ⟨b, hb1, hyes, hno⟩ := w
        refine wpAny_handleBy_cons (codeAny_handlers_test ?_) (by intro q; cases q)
        have LT : PySem.W.Looks (model X.prog X.w) h3 (typeOf (.ref a)) cls := fun A Q E s k q => wpAny_typeOf_ref (k _ _ he3) (by rw [hz3.1]; exact q)
        have LM := PySem.W.exm_one (M := model X.prog X.w) (J3.kIn) LT hb1
        have test : ∀ {Q : Value → Shared → Prop} {E : Value → Shared → Prop}, Q c { s' with heap := h3 } → wpAny (model X.prog X.w) (X.A.mark (some (.ref a))) (eval (.Name x np) X.env) Q E { s' with heap := h3 } := fun {Q E} q => by
          obtain ⟨hg, hdbg, hm | ⟨hm, hv, hnn⟩⟩ := hc
          · exact ld_glob (X := X.suite a ((a, oe3) :: (X.pn ++ pins))) S3 hg hm q hdbg
          · exact ld_blt (X := X.suite a ((a, oe3) :: (X.pn ++ pins))) S3 hg hm hv q hnn hdbg
        refine test (LM.here ?_)
        cases b with
        | true =>
          rcases hn with ⟨rfl, rfl⟩ | ⟨n, j, rfl, rfl, hj, hln⟩
          · refine codeAny_handlers_suite ?_
            refine HandSPX.lands_againZ fl3 fun h4 fl4 up4 => ?_
            have J4 : L2.Inv X pins σ' H' { s' with heap := h4 } := J.landed nb fl4.1 ((up.trans up3).trans up4) os ag
            obtain ⟨oe4, vs4, he4, hz4, hd4⟩ := fl4.there
            have S4 := J4.suite he4 hd4 na nL nF
            refine wpAny_mono ((hsu a oe4 cls d (X.pn ++ pins) hz4 ⟨_, hd4⟩).run [] _ _ H' _ S4 (hyes rfl a na)) (fun f s6 hsp => ?_) (fun _ _ z => False.elim z)
            cases f with
            | next =>
              obtain ⟨σ6, H6, S6, q6⟩ := hsp
              exact ⟨_, _, S6.unsuite ok, q6⟩
            | brk =>
              obtain ⟨σ6, H6, S6, q6⟩ := hsp
              exact ⟨_, _, S6.unsuite ok, q6⟩
            | cont =>
              obtain ⟨σ6, H6, S6, q6⟩ := hsp
              exact ⟨_, _, S6.unsuite ok, q6⟩
            | ret u =>
              obtain ⟨v6, σ6, H6, S6, r6, q6⟩ := hsp
              exact ⟨_, _, _, S6.unsuite ok, r6, q6⟩
          · have hloc : Loc X.env.scope n := .inl hln
            refine codeAny_handlers_suite_as ?_
            refine HandSPX.lands_againZ fl3 fun h4 fl4 up4 => ?_
            have J4 : L2.Inv X pins σ' H' { s' with heap := h4 } := J.landed nb fl4.1 ((up.trans up3).trans up4) os ag
            obtain ⟨oe4, vs4, he4, hz4, hd4⟩ := fl4.there
            have S4 := J4.suite he4 hd4 na nL nF
            refine store_ok (X := X.suite a ((a, oe4) :: (X.pn ++ pins))) (v := .ref a) S4 hN hj hloc rfl (fun s5 S5 => ?_) (.inr hln)
            refine wpAny_mono ((hsu a oe4 cls d (X.pn ++ pins) hz4 ⟨_, hd4⟩).run [] s5 _ H' _ S5 (hyes rfl a na)) (fun f s6 hsp => ?_) (fun _ _ z => False.elim z)
            have end_ : ∀ {σ6 : L2.St} {H6 : Hp} {Q : Shared → Prop}, L2.Inv (X.suite a ((a, oe4) :: (X.pn ++ pins))) [] σ6 H6 s6 → (∀ s7, L2.Inv X pins (σ6.set j none) H6 s7 → Q s7) →
                wpAny (model X.prog X.w) X.A (do bindName X.env n .none; unbindBehindTheSuite X.env n pos') (fun _ s7 => Q s7) X.xe s6 := fun {σ6 H6 Q} S6 hq => gone_ok (S6.unsuite ok) hN hj hln hq
            cases f with
            | next =>
              obtain ⟨σ6, H6, S6, q6⟩ := hsp
              exact end_ S6 fun s7 J7 => ⟨_, _, J7, q6⟩
            | brk =>
              obtain ⟨σ6, H6, S6, q6⟩ := hsp
              exact end_ S6 fun s7 J7 => ⟨_, _, J7, q6⟩
            | cont =>
              obtain ⟨σ6, H6, S6, q6⟩ := hsp
              exact end_ S6 fun s7 J7 => ⟨_, _, J7, q6⟩
            | ret u =>
              obtain ⟨v6, σ6, H6, S6, r6, q6⟩ := hsp
              exact end_ S6 fun s7 J7 => ⟨_, _, _, J7, r6, q6⟩
        | false =>
          show wpAny _ X.A (handleBy (.ref a) X.env hds2) _ _ _
          exact ih (hno rfl)
    exact go hh w
  · cases f with
    | next =>
      obtain ⟨σ', H', J', q⟩ := hsp
      exact wpAny_execs_nil ⟨σ', H', J'.ofTry ok, q⟩
    | brk =>
      obtain ⟨σ', H', J', q⟩ := hsp
      exact ⟨σ', H', J'.ofTry ok, q⟩
    | cont =>
      obtain ⟨σ', H', J', q⟩ := hsp
      exact ⟨σ', H', J'.ofTry ok, q⟩
    | ret u =>
      obtain ⟨v, σ', H', J', r, q⟩ := hsp
      exact ⟨v, σ', H', J'.ofTry ok, r, q⟩
end
theorem var_ev {ft : FT} {ρ : Env} {Ω : Sto} (i : Nat) : evE ft (.var i) ρ Ω = .bad ∨ ∃ d, evE ft (.var i) ρ Ω = .ok d Ω := by
  rw [evE]
  split
  · exact .inr ⟨_, rfl⟩
  · exact .inl rfl
theorem conE_ev {ft : FT} {ρ : Env} {Ω : Sto} : ∀ {e : E}, conE e = true → evE ft e ρ Ω = .bad ∨ ∃ d, evE ft e ρ Ω = .ok d Ω
  | .non, _ => .inr ⟨_, by rw [evE]⟩
  | .bl _, _ => .inr ⟨_, by rw [evE]⟩
  | .int _, _ => .inr ⟨_, by rw [evE]⟩
  | .str _, _ => .inr ⟨_, by rw [evE]⟩
  | .tup (.cons (.str s) .nil), _ => .inr ⟨.tup [.str s], by simp [evE, evL, R.bind, big]⟩
  | .emp neg (.idx (.var i) (.var j)), _ => by
    have e : evE ft (.emp neg (.idx (.var i) (.var j))) ρ Ω = ((evE ft (.var i) ρ Ω).bind fun x Ω => (evE ft (.var j) ρ Ω).bind fun y Ω => opt (idxD (lk Ω x) y) Ω).bind fun x Ω => match lk Ω x with
      | .lst xs => .ok (.bl (xs.isEmpty != neg)) Ω
      | _ => .bad := by
      conv => lhs; rw [evE, evE]
      try rfl
    rw [e]
    rcases var_ev (ft := ft) (ρ := ρ) (Ω := Ω) i with e1 | ⟨d1, e1⟩
    · rw [e1]; exact .inl rfl
    · rw [e1]
      show ((evE ft (.var j) ρ Ω).bind fun y Ω => opt (idxD (lk Ω d1) y) Ω).bind _ = _ ∨ ∃ d, ((evE ft (.var j) ρ Ω).bind fun y Ω => opt (idxD (lk Ω d1) y) Ω).bind _ = _
      rcases var_ev (ft := ft) (ρ := ρ) (Ω := Ω) j with e2 | ⟨d2, e2⟩
      · rw [e2]; exact .inl rfl
      · rw [e2]
        show (opt (idxD (lk Ω d1) d2) Ω).bind _ = _ ∨ ∃ d, (opt (idxD (lk Ω d1) d2) Ω).bind _ = _
        cases idxD (lk Ω d1) d2 with
        | none => exact .inl rfl
        | some d3 =>
          show (match lk Ω d3 with
            | .lst xs => R.ok (Rf.D.bl (xs.isEmpty != neg)) Ω
            | _ => .bad) = .bad ∨ ∃ d, (match lk Ω d3 with
            | .lst xs => R.ok (Rf.D.bl (xs.isEmpty != neg)) Ω
            | _ => .bad) = .ok d Ω
          cases lk Ω d3 with
          | lst xs => exact .inr ⟨_, rfl⟩
          | _ => exact .inl rfl
theorem lookup_repS {K : Frg} {G : Hp} {μ : Mu} {n : Nat} {f : Str} : ∀ {fs : List (Str × Rf.D)} {ws : List (Str × V)} {d : Rf.D}, RepS K G μ n fs ws → fs.lookup f = some d → ∃ v, ws.lookup f = some v ∧ Rep K G μ n d v
  | [], ws, d, h, e => by cases e
  | (k, x) :: fs, ws, d, h, e => by
    simp only [RepS] at h
    obtain ⟨v, w', rfl, r1, r2⟩ := h
    have e : (match f == k with | true => some x | false => fs.lookup f) = some d := e
    show ∃ u, (match f == k with | true => some v | false => w'.lookup f) = some u ∧ _
    cases q : f == k with
    | true =>
      rw [q] at e
      cases e
      exact ⟨v, rfl, r1⟩
    | false =>
      rw [q] at e
      exact lookup_repS r2 e
theorem VOk.pe {X : Cx} {ft : FT} {i : Option Nat} {c : Str} {v : HV} {l : Expr} (h : VOk X ft i c v l) {a : Addr} {oe : Obj} {cls : Value} {d : Option Addr} {pn : List (Addr × Obj)} (hz : Zc cls d oe) (hf : ∃ vs, oe.data = .fields vs) :
    ∃ t : TE, PE (X.suite a ((a, oe) :: pn)) l t ∧ ∀ (σ : L2.St) (H : Hp) (μ : Mu) (Ω : Sto) (ρ : Env) (x : Exn) (dv : Rf.D) (Q : VK), (∀ j, i = some j → σ[j]? = some (some (.ref a))) → At X.K σ H μ Ω ρ → XRep X.K H μ Ω x d → cls = .ref (He.ga X.K c) → v.of ft x ρ Ω = some dv →
      (∀ u H1 μ1, Ext X.K H μ Ω H1 μ1 Ω → Rep X.K (Fz H1 μ1 Ω) μ1 Ω.length dv u → Q u H1) → t σ H Q := by
  cases h with
  | @tag i n c s f j k p1 p2 p3 p4 hn hv hd hcd T hno =>
    refine ⟨_, pe_tup (pa_cons pe_str (pa_cons (pe_xf T hno hz hf (pe_var (i := i) hn hv hd hcd)) pa_nil)), fun σ H μ Ω ρ x dv Q hs at_ xr ec ev q => ?_⟩
    have ev : (x.fs.lookup f).map (fun d => Rf.D.tup [.str s, d]) = some dv := ev
    cases el : x.fs.lookup f with
    | none => rw [el] at ev; cases ev
    | some d0 =>
      rw [el] at ev
      cases ev
      rcases xr with ⟨e0, _⟩ | ⟨dx, ws, rfl, hdx, rs⟩
      · rw [e0] at el; cases el
      · obtain ⟨u, e1, r1⟩ := lookup_repS rs el
        refine ⟨.ref a, hs i rfl, rfl, ec, dx, ws, u, rfl, hdx, e1, ?_⟩
        refine ⟨by show 2 ≤ sizeLine; rw [sizeLine_eq]; omega, fun p hp => ?_⟩
        have ex := Ext.new (o := .tup [.str s, u]) at_.wf hp
        refine q _ _ μ ex ?_
        simp only [Rep]
        refine ⟨p, [.str s, u], rfl, Reps.cons (by simp only [Rep]) (Reps.one (Rep.tr ex.tr _ _ r1)), by show 2 ≤ sizeLine; rw [sizeLine_eq]; omega, .inl (Fz.new at_.wf hp)⟩
  | @fld i n c f p2 p3 hn hv hd hcd T hno =>
    refine ⟨_, pe_xf T hno hz hf (pe_var (i := i) hn hv hd hcd), fun σ H μ Ω ρ x dv Q hs at_ xr ec ev q => ?_⟩
    have ev : x.fs.lookup f = some dv := ev
    rcases xr with ⟨e0, _⟩ | ⟨dx, ws, rfl, hdx, rs⟩
    · rw [e0] at ev; cases ev
    · obtain ⟨u, e1, r1⟩ := lookup_repS rs ev
      exact ⟨.ref a, hs i rfl, rfl, ec, dx, ws, u, rfl, hdx, e1, q _ _ μ (Ext.refl at_.wf) r1⟩
  | con he h =>
    rename_i e
    refine ⟨_, h a _, fun σ H μ Ω ρ x dv Q hs at_ xr ec ev q => ?_⟩
    have ev : (match evE ft e ρ Ω with | .ok d Ω' => some d | _ => none) = some dv := ev
    obtain ⟨d0, e1⟩ : ∃ d, evE ft e ρ Ω = .ok d Ω := by
      rcases conE_ev (ft := ft) (ρ := ρ) (Ω := Ω) he with e0 | h0
      · rw [e0] at ev; cases ev
      · exact h0
    rw [e1] at ev
    cases ev
    refine ⟨μ, Ω, ρ, at_, ?_⟩
    rw [e1]
    exact fun b H' μ' ex r => q b H' μ' ex r
theorem AOk.ps {X : Cx} {ft : FT} {W : WX} {i : Option Nat} {c : Str} {h : HA} {ss : List Stmt} (ok : AOk X ft i c h ss) (hN : X.N.Nodup) {a : Addr} {oe : Obj} {cls : Value} {d : Option Addr} {pn : List (Addr × Obj)} (hz : Zc cls d oe) (hf : ∃ vs, oe.data = .fields vs) :
    ∃ t : TS, PSs (X.suite a ((a, oe) :: pn)) ss t ∧ ∀ (σ : L2.St) (H : Hp) (μ : Mu) (Ω : Sto) (ρ : Env) (x : Exn) (D : Ends), (∀ j, i = some j → j < σ.length) → At X.K σ H μ Ω ρ → XRep X.K H μ Ω x d → cls = .ref (He.ga X.K c) → PostS X.K W H μ Ω (h.run ft x (unAs ρ i) Ω) D →
      t (endAs D i) (atAs σ a i) H := by
  have slot : ∀ {σ : L2.St}, (∀ j, i = some j → j < σ.length) → ∀ j, i = some j → (atAs σ a i)[j]? = some (some (.ref a)) := fun {σ} hl j hj => by
    have := hl j hj
    subst hj
    exact List.getElem?_set_self this
  have env : ∀ {σ : L2.St} {H : Hp} {μ : Mu} {Ω : Sto} {ρ : Env}, At X.K σ H μ Ω ρ → At X.K (atAs σ a i) H μ Ω (unAs ρ i) := fun {σ H μ Ω ρ} at_ => by
    refine ⟨at_.wf, ?_⟩
    cases i with
    | none => exact at_.env
    | some k =>
      refine ⟨by show (ρ.set k none).length = (σ.set k _).length; rw [List.length_set, List.length_set]; exact at_.env.1, fun j d' e => ?_⟩
      have e : (ρ.set k none)[j]? = some (some d') := e
      by_cases hj : j = k
      · subst hj
        have hl := (List.getElem?_eq_some_iff.mp e).1
        rw [List.length_set] at hl
        rw [List.getElem?_set_self hl] at e
        cases e
      · rw [List.getElem?_set_ne (Ne.symm hj)] at e
        obtain ⟨u, e1, r1⟩ := at_.env.2 j d' e
        exact ⟨u, by show (σ.set k _)[j]? = _; rw [List.getElem?_set_ne (Ne.symm hj)]; exact e1, r1⟩
  cases ok with
  | @set y j v l py pos hv hy hl hs hne =>
    obtain ⟨t, pe, rd⟩ := hv.pe hz hf (pn := pn)
    refine ⟨_, pss_one (ps_set (X := X.suite a ((a, oe) :: pn)) hN hy (.inl hl) pe (hs _) (.inr hl)), fun σ H μ Ω ρ x D hlen at_ xr ec p => ?_⟩
    have p : PostS X.K W H μ Ω (match v.of ft x (unAs ρ i) Ω with | some d => .ok (.nx ((unAs ρ i).set j (some d))) Ω | none => .bad) D := p
    cases ev : v.of ft x (unAs ρ i) Ω with
    | none => rw [ev] at p; exact False.elim p
    | some dv =>
      rw [ev] at p
      refine rd (atAs σ a i) H μ Ω (unAs ρ i) x dv _ (slot hlen) (env at_) xr ec ev fun u H1 μ1 ex r => ?_
      have e2 := (((env at_).env.tr ex.tr).set j r)
      cases i with
      | none => exact p _ H1 μ1 ex e2
      | some k =>
        show D.nx (((σ.set k (some (.ref a))).set j (some u)).set k none) H1
        refine p _ H1 μ1 ex ?_
        have e3 := e2.unset k
        have e4 : ((unAs ρ (some k)).set j (some dv)).set k none = (unAs ρ (some k)).set j (some dv) := by
          apply List.ext_getElem?
          intro m
          by_cases hm : m = k
          · subst hm
            by_cases hl : m < ((unAs ρ (some m)).set j (some dv)).length
            · rw [List.getElem?_set_self hl, List.getElem?_set_ne (hne m rfl)]
              have : m < ρ.length := by rw [List.length_set] at hl; show m < ρ.length; have h2 : (unAs ρ (some m)).length = ρ.length := List.length_set ..; omega
              exact (List.getElem?_set_self this).symm
            · rw [List.getElem?_eq_none (by rw [List.length_set]; omega), List.getElem?_eq_none (by omega)]
          · rw [List.getElem?_set_ne (Ne.symm hm)]
        rw [e4] at e3
        exact e3
  | ret hv =>
    rename_i v l pos
    obtain ⟨t, pe, rd⟩ := hv.pe hz hf (pn := pn)
    refine ⟨_, pss_one (ps_ret pe), fun σ H μ Ω ρ x D hlen at_ xr ec p => ?_⟩
    have p : PostS X.K W H μ Ω (match v.of ft x (unAs ρ i) Ω with | some d => .ok (.rt d) Ω | none => .bad) D := p
    cases ev : v.of ft x (unAs ρ i) Ω with
    | none => rw [ev] at p; exact False.elim p
    | some dv =>
      rw [ev] at p
      refine rd (atAs σ a i) H μ Ω (unAs ρ i) x dv _ (slot hlen) (env at_) xr ec ev fun u H1 μ1 ex r => ?_
      have q := p u H1 μ1 ex r
      cases i <;> exact q
theorem AOk.ne {X : Cx} {ft : FT} {i : Option Nat} {c : Str} {h : HA} {ss : List Stmt} (ok : AOk X ft i c h ss) : ∃ b r, ss = b :: r := by cases ok <;> exact ⟨_, _, rfl⟩
theorem HsOk.to {X : Cx} {ft : FT} {W : WX} (hN : X.N.Nodup) : ∀ {hds : List ExceptHandler} {hs : List Hd}, HsOk X ft hds hs → ∃ l, Hds2 X hds l ∧
    ∀ (D : Ends) (σ : L2.St) (H : Hp) (μ : Mu) (Ω : Sto) (ρ : Env) (x : Exn) (d : Option Addr), σ.length = X.N.length → At X.K σ H μ Ω ρ → XRep X.K H μ Ω x d → PostS X.K W H μ Ω (handle ft x ρ Ω hs) D → wMany2 X.K W D l (.ref (He.ga X.K x.cls)) d σ H
  | _, _, .nil => ⟨[], .nil, fun D σ H μ Ω ρ x d hl at_ xr p => p σ d H μ (Ext.refl at_.wf) at_.env xr⟩
  | _, _, .cons (h := h) (ss := ss) (hs := hs) hc hx hn ok r => by
    obtain ⟨l, h2, k⟩ := HsOk.to (W := W) hN r
    obtain ⟨b, rest, rfl⟩ := ok.ne
    have sel : ∀ (a : Addr) (oe : Obj) (cls : Value) (d : Option Addr) (pn : List (Addr × Obj)), Zc cls d oe ∧ (∃ vs, oe.data = .fields vs) → _ := fun a oe cls d pn hh => AOk.ps (W := W) (pn := pn) ok hN (a := a) hh.1 hh.2
    -- the reading of the suite: all that it may be asked for
    refine ⟨(.ref (He.ga X.K h.c), h.as, fun a cls d D' σ' H' => ∃ (σ : L2.St) (μ : Mu) (Ω : Sto) (ρ : Env) (x : Exn) (D : Ends), D' = endAs D h.as ∧ σ' = atAs σ a h.as ∧ (∀ j, h.as = some j → j < σ.length) ∧ At X.K σ H' μ Ω ρ ∧ XRep X.K H' μ Ω x d ∧ cls = .ref (He.ga X.K h.c) ∧
        PostS X.K W H' μ Ω (h.act.run ft x (unAs ρ h.as) Ω) D) :: l, .cons hc hn (fun a oe cls d pn hz hf => ?_) h2, fun D σ H μ Ω ρ x d hl at_ xr p => ?_⟩
    · obtain ⟨t, ps, q⟩ := AOk.ps (W := W) (pn := pn) ok hN (a := a) hz hf
      exact ps.imp fun D' σ' H' ⟨σ, μ, Ω, ρ, x, D, e1, e2, e3, e4, e5, e6, e7⟩ => by subst e1 e2; exact q σ H' μ Ω ρ x D e3 e4 e5 e6 e7
    · have p : PostS X.K W H μ Ω (if (ft.xf x.cls).isSome = true ∧ (ft.xf h.c).isSome = true then (if x.cls = h.c then h.act.run ft x (unAs ρ h.as) Ω else handle ft x ρ Ω hs) else .bad) D := p
      by_cases hi : (ft.xf x.cls).isSome = true ∧ (ft.xf h.c).isSome = true
      · rw [if_pos hi] at p
        refine ⟨_, hx x.cls hi.1, fun hb a hn' => ?_, fun hb => ?_⟩
        · have e : x.cls = h.c := of_decide_eq_true hb
          rw [if_pos e] at p
          refine ⟨σ, μ, Ω, ρ, x, D, rfl, rfl, fun j hj => ?_, at_, xr, by rw [e], p⟩
          rcases hn with ⟨_, e2⟩ | ⟨n, j', _, e2, e3, _⟩
          · rw [e2] at hj; cases hj
          · rw [e2] at hj
            cases hj
            rw [hl]
            exact (List.getElem?_eq_some_iff.mp e3).1
        · have e : ¬ x.cls = h.c := of_decide_eq_false hb
          rw [if_neg e] at p
          exact k D σ H μ Ω ρ x d hl at_ xr p
      · rw [if_neg hi] at p; exact False.elim p
theorem s_tr {X : Cx} {ft : FT} {W : WX} {body : List Stmt} {b : SL} {h₀ : ExceptHandler} {hds : List ExceptHandler} {hs : List Hd} {pos : Pos} (hst : X.stack = X.env :: X.outer) (hf : X.env.frame = some X.env.locals) (hN : X.N.Nodup) (tk : Takes X W)
    (hb : ∀ (W' : WX) (pn : List (Addr × Obj)) (xe : Value → Shared → Prop), Takes (X.tr pn xe) W' → PassesOwn (model X.prog X.w) X.A X.env xe → PSs (X.tr pn xe) body (TLv X.K W' ft b)) (hh : HsOk X ft (h₀ :: hds) hs) :
    PS X (.Try body (h₀ :: hds) [] [] pos) (TSv X.K W ft (.tr b hs)) := by
  obtain ⟨l, h2, k⟩ := HsOk.to (W := W) hN hh
  have q := ps_try2 (pos := pos) (tb := fun W' => TLv X.K W' ft b) hst hf hN tk hb h2
  refine ⟨fun pins s σ H D I h => q.run pins s σ H D I ?_⟩
  obtain ⟨μ, Ω, ρ, at_, p⟩ := h
  refine ⟨μ, Ω, ρ, at_, ?_⟩
  rw [exS] at p
  cases e : exL ft b ρ Ω with
  | bad => rw [e] at p; exact False.elim p
  | ok f Ω' =>
    rw [e] at p
    cases f <;> exact p
  | ex x ρ' Ω' =>
    rw [e] at p
    have p : PostS X.K W H μ Ω (handle ft x ρ' Ω' hs) D := p
    intro σ' d H' μ' ex re xr hl
    exact k D σ' H' μ' Ω' ρ' x d hl ⟨ex.wf, re⟩ xr (PostS.ext ex p)
end Rf
end
section
namespace Rf
open PySem L2 PyProof.Rows
theorem mutNT {o : HO} (h : MutN (some o)) : NoT o := fun ps z => by rw [z] at h; exact h
theorem Ext.tbl {K : Frg} {H H' : Hp} {μ : Mu} {Ω : Sto} (w : Wf K H μ Ω) (le : LamX.ExtN H H') (tb : LamX.Tabs (tbs K) H') : Ext K H μ Ω H' μ Ω := by
  have keep : ∀ a o, NoT o → H a = some o → H' a = some o := fun a o nt h => le a o h nt
  have fz : ∀ a u, Fz H μ Ω a = some u → Fz H' μ Ω a = some u := fun a u h => by
    obtain ⟨h1, h2⟩ := Fz.of h
    exact Fz.mk (keep a u (Fz.nt h) h1) h2 (Fz.nt h)
  have hk : ∀ a, a ∈ μ.hid → H' a = H a := fun a ha => by
    have m := w.hin a ha
    cases e : H a with
    | none => rw [e] at m; exact False.elim m
    | some o => rw [e] at m; exact keep a o (mutNT m) e
  refine ⟨⟨w.inj, fun k ob e hne => ?_, fun a ha => by rw [hk a ha]; exact w.hin a ha, w.hof, tb⟩, fz, fun _ _ => rfl, Nat.le_refl _, rfl, hk⟩
  obtain ⟨ho, q, r⟩ := w.ob k ob e hne
  exact ⟨ho, keep _ _ (mutNT r.mut) q, r.tr (Tr.of_le fz (fun _ _ => rfl) (Nat.le_refl _))⟩
theorem Post.ext {K : Frg} {W : WX} {σ : L2.St} {H H' : Hp} {μ μ' : Mu} {Ω Ω' : Sto} {α β : Type} {rel : Rl α β} {r : R α} {Q : β → Hp → Prop} (e : Ext K H μ Ω H' μ' Ω') (p : Post K rel W σ H μ Ω r Q) : Post K rel W σ H' μ' Ω' r Q := by
  cases r with
  | ok a Ω2 => exact fun b H2 μ2 e2 q => p b H2 μ2 (e.trans e2) q
  | ex x Ω2 => exact fun d H2 μ2 e2 q => p d H2 μ2 (e.trans e2) q
  | bad => exact p
theorem env_none {K : Frg} {G : Hp} {μ : Mu} {n m : Nat} {σ : L2.St} (h : σ.length = m) : REnv K G μ n (List.replicate m none) σ := ⟨by rw [List.length_replicate, h], fun i d e => by
  rw [List.getElem?_replicate] at e
  split at e <;> cases e⟩
section
variable {X : Cx}
theorem fin_post {K : Frg} {ft : FT} {sl : SL} {H : Hp} {μ : Mu} {Ω : Sto} {ρ : Env} {σ : L2.St} {Q : VK} (at_ : At K σ H μ Ω ρ) (p : Post K (rD K) (fun _ _ _ _ => False) [] H μ Ω (finR (exL ft sl ρ Ω)) Q) : TLv K (fun _ _ _ _ => False) ft sl { nx := fun _ H' => Q .non H', rt := Q } σ H := by
  refine ⟨μ, Ω, ρ, at_, ?_⟩
  cases e : exL ft sl ρ Ω with
  | bad => rw [e] at p; exact False.elim p
  | ex x ρ' Ω' => rw [e] at p; exact False.elim p
  | ok f Ω' =>
    rw [e] at p
    cases f with
    | nx ρ' => exact fun σ' H' μ' ex _ => p .non H' μ' ex (by simp only [rD, Rep])
    | rt d => exact p
    | bk ρ' => exact False.elim p
    | ct ρ' => exact False.elim p
theorem lam_gives {Ng : List Str} {x a q : Str} {sg : Scope} {g : Addr} {cdg : Value} {ft : FT} {h : HD} {bp : List Stmt} {st : Stmt} {h₀ : ExceptHandler} {hds : List ExceptHandler} {bpost : List Stmt} {pos : Pos} (hN : Ng.Nodup) (h0 : Ng[0]? = some a) (hk : sg.kind = .function) (hkp : h.kp = none)
    (pre : PreOk Ng sg h.pre bp) (fm : FmOk a Ng sg h.fm st) (fm0 : ∀ j s, h.fm = .set j s → 0 < j)
    (hh : ∀ (f : Addr) (s : Shared) (H : Hp), HsOk (cxOf C8.CX0 X.prog X.w X.K X.mg X.base Ng x sg g cdg X.A X.stack s H C8.E0).nox ft (h₀ :: hds) h.hs)
    (post : ∀ (f : Addr) (s : Shared) (H : Hp), PSs (cxOf C8.CX0 X.prog X.w X.K X.mg X.base Ng x sg g cdg X.A X.stack s H C8.E0).nox bpost (TLv X.K (fun _ _ _ _ => False) ft h.post)) :
    LamX.GivesTo X Ng x sg g cdg (bp ++ .Try [st] (h₀ :: hds) [] [] pos :: bpost) a q (TTr X.K ft Ng.length h) := by
  intro f c' s H Q tl act hc ht
  obtain ⟨μ, Ω, a0, wf, ha, p⟩ := ht
  generalize hZ : (cxOf C8.CX0 X.prog X.w X.K X.mg X.base Ng x sg g cdg X.A X.stack s H C8.E0).nox = Z
  have hh := hh f s H
  have post := post f s H
  rw [hZ] at hh post
  have eN : Z.N = Ng := by rw [← hZ]; rfl
  have eK : Z.K = X.K := by rw [← hZ]; rfl
  have eS : Z.env.scope = sg := by rw [← hZ]; rfl
  have stk : Z.stack = Z.env :: Z.outer := by rw [← hZ]; rfl
  have frm : Z.env.frame = some Z.env.locals := by rw [← hZ]; rfl
  have nl : 0 < Ng.length := (List.getElem?_eq_some_iff.mp h0).1
  have tk : Takes Z (fun _ _ _ _ => False) := LamX.takes0
  have act : ∀ (W : WX) (pn : List (Addr × Obj)) (xe : Value → Shared → Prop) (E : XK) (p1 p2 : Pos), Takes (Z.tr pn xe) W → (∀ cls d σ' H', E cls d H' → W cls d σ' H') → PE (Z.tr pn xe) (.Call (.Name a p1) [] [] p2) (fun σZ HZ Q => σZ[0]? = some (some (.ref f)) ∧ HZ c' = some (LamX.CodeO c' q) ∧ tl E HZ Q) := by
    rw [← hZ]; exact act
  obtain ⟨l, h2, kk⟩ := HsOk.to (W := fun _ _ _ _ => False) (by rw [eN]; exact hN) hh
  rw [eK] at kk
  have vis : ∀ {y : Str}, sg.names.lookup y = some .local → Z.env.scope.names.lookup y = some .local := fun {y} e => by rw [eS]; exact e
  have try_ := ps_try2 (X := Z) (pos := pos) (body := [st]) (Wout := fun _ _ _ _ => False) stk frm (by rw [eN]; exact hN) tk
    (tb := fun W D σ H => ∃ Ech : XK, (∀ cls d σ' H', Ech cls d H' → W cls d σ' H') ∧ σ[0]? = some (some (.ref f)) ∧ H c' = some (LamX.CodeO c' q) ∧
      tl Ech H (match h.fm with
        | .expr => fun _ H' => D.nx σ H'
        | .ret s => fun v H' => [V.str s, v].length ≤ sizeLine ∧ ∀ p, H' p = none → D.rt (.ref p) (upd H' p (.tup [.str s, v]))
        | .set j s => fun v H' => [V.str s, v].length ≤ sizeLine ∧ ∀ p, H' p = none → D.nx (σ.set j (some (.ref p))) (upd H' p (.tup [.str s, v]))))
    (fun W pn xe tkW _ => ?B) h2
  case B =>
    refine ⟨fun pins s' σ H' D I h' => ?_⟩
    obtain ⟨Ech, hW, e1, e2, e3⟩ := h'
    generalize h.fm = m at fm e3
    cases fm with
    | expr => exact (pss_one (ps_expr (act W pn xe Ech _ _ tkW hW))).run pins s' σ H' D I ⟨e1, e2, e3⟩
    | ret => exact (pss_one (ps_ret (pe_tup (pa_cons pe_str (pa_cons (act W pn xe Ech _ _ tkW hW) pa_nil))))).run pins s' σ H' D I ⟨e1, e2, e3⟩
    | set hy hl => exact (pss_one (ps_set (X := Z.tr pn xe) (by show Z.N.Nodup; rw [eN]; exact hN) (by show Z.N[_]? = _; rw [eN]; exact hy) (.inl (vis hl)) (pe_tup (pa_cons pe_str (pa_cons (act W pn xe Ech _ _ tkW hW) pa_nil))) rfl (.inr (vis hl)))).run pins s' σ H' D I ⟨e1, e2, e3⟩
  have core : ∀ σ0 : L2.St, σ0[0]? = some (some (.ref f)) → At X.K σ0 H μ Ω (preE Ng.length h.pre) → tSeq (fun D σ H => ∃ Ech : XK, (∀ cls d σ' H', Ech cls d H' → (fun cls d σ H => σ.length = Z.N.length → wMany2 Z.K (fun _ _ _ _ => False) D l cls d σ H) cls d σ' H') ∧ σ[0]? = some (some (.ref f)) ∧ H c' = some (LamX.CodeO c' q) ∧
      tl Ech H (match h.fm with
        | .expr => fun _ H' => D.nx σ H'
        | .ret s => fun v H' => [V.str s, v].length ≤ sizeLine ∧ ∀ p, H' p = none → D.rt (.ref p) (upd H' p (.tup [.str s, v]))
        | .set j s => fun v H' => [V.str s, v].length ≤ sizeLine ∧ ∀ p, H' p = none → D.nx (σ.set j (some (.ref p))) (upd H' p (.tup [.str s, v])))) (TLv X.K (fun _ _ _ _ => False) ft h.post) { nx := fun _ H' => Q .non H', rt := Q } σ0 H := by
    intro σ0 e1 at_
    refine ⟨fun cls d H' => ∀ σ', σ'.length = Z.N.length → wMany2 Z.K (fun _ _ _ _ => False) { nx := TLv X.K (fun _ _ _ _ => False) ft h.post { nx := fun _ H' => Q .non H', rt := Q }, rt := Q } l cls d σ' H', fun cls d σ' H' z => z σ', e1, hc, ha _ _ ?_⟩
    cases a0 with
    | bad => exact p
    | ok d Ω1 =>
      intro b H' μ' ex r
      have two : [V.str "", b].length ≤ sizeLine := by show 2 ≤ sizeLine; rw [sizeLine_eq]; omega
      have p := Post.ext ex p
      unfold runH at p
      generalize h.fm = m at p fm0
      cases m with
      | expr => exact fin_post (at_.ext ex) p
      | ret s =>
        refine ⟨two, fun z hz => ?_⟩
        have ex2 := Ext.new (o := .tup [.str s, b]) ex.wf hz
        refine p (.ref z) _ μ' ex2 ?_
        simp only [rD, Rep]
        exact ⟨z, [.str s, b], rfl, Reps.cons (by simp only [Rep]) (Reps.one (Rep.tr ex2.tr _ _ r)), two, .inl (Fz.new ex.wf hz)⟩
      | set j s =>
        refine ⟨two, fun z hz => ?_⟩
        have ex2 := Ext.new (o := .tup [.str s, b]) ex.wf hz
        refine fin_post ⟨ex2.wf, ((at_.env.tr (ex.trans ex2).tr).set j ?_)⟩ (Post.ext ex2 p)
        simp only [Rep]
        exact ⟨z, [.str s, b], rfl, Reps.cons (by simp only [Rep]) (Reps.one (Rep.tr ex2.tr _ _ r)), two, .inl (Fz.new ex.wf hz)⟩
    | ex x Ω1 =>
      intro d H' μ' ex xr σ' hl
      rw [eK]
      refine kk _ σ' H' μ' Ω1 (List.replicate Ng.length none) x d hl ⟨ex.wf, env_none (by rw [hl, eN])⟩ xr ?_
      have p := Post.ext ex p
      unfold runH at p
      rw [hkp] at p
      have p : Post X.K (rD X.K) (fun _ _ _ _ => False) [] H' μ' Ω1 (match handle ft x (List.replicate Ng.length none) Ω1 h.hs with
        | .ok (.nx ρ) Ω2 => finR (exL ft h.post ρ Ω2)
        | .ok (.rt d) Ω2 => .ok d Ω2
        | _ => .bad) Q := p
      generalize handle ft x (List.replicate Ng.length none) Ω1 h.hs = rr at p
      cases rr with
      | bad => exact p
      | ex _ _ _ => exact False.elim p
      | ok fl Ω2 =>
        cases fl with
        | nx ρ => exact fun σ2 H2 μ2 ex2 re => fin_post ⟨ex2.wf, re⟩ (Post.ext ex2 p)
        | rt dv => exact p
        | bk _ => exact False.elim p
        | ct _ => exact False.elim p
  have st0 : At X.K (L2.start Ng [.ref f]) H μ Ω (List.replicate Ng.length none) := ⟨wf, env_none (by unfold L2.start; simp; omega)⟩
  have z0 : (L2.start Ng [V.ref f])[0]? = some (some (.ref f)) := rfl
  generalize hpre : h.pre = pr at pre core
  cases pre with
  | none => exact ⟨_, pss_cons try_ post, core _ z0 st0⟩
  | some hy hl hi =>
    refine ⟨_, pss_cons (ps_set (X := Z) (by rw [eN]; exact hN) (by rw [eN]; exact hy) (.inl (vis hl)) pe_non rfl (.inr (vis hl))) (pss_cons try_ post), ?_⟩
    refine core _ ?_ ⟨wf, st0.env.set _ (by simp only [Rep])⟩
    rw [List.getElem?_set_ne (by omega)]
    exact z0
theorem s_lamc {W : WX} {ft ft' : FT} {hd : HD} {f a : Str} {g c P : Addr} {k : Nat} {pg : Arguments} {bg : List Stmt} {sg : Scope} {dV kV doc pm cdv ct oc : Value} {an od : Option Addr} {osl : Array (Option Value)} {Ng : List Str}
    {params : Arguments} {body : Expr} {scope : Scope} {e : E} {p lpos pos : Pos} (hx : ft.hf f = some fun e ρ Ω => runH ft' Ng.length hd (evE ft' e ρ Ω) Ω) (hg : Gl X f) (hm : X.mg f = some (.ref g)) (hk : PySem.W.keepIn X.K (.ref g) = true)
    (lk : X.K.lookup g = some ⟨oc, od, .func (PySem.W.fnOf f f pg bg sg dV kV doc pm an cdv ct), osl⟩) (hcg : PySem.W.codeIn X.K cdv f = true) (hb : L2.Binds X.K (PySem.W.fnOf f f pg bg sg dV kV doc pm an cdv ct) [a] []) (Sg : FnScope Ng [a] sg) (hNg : Ng[0]? = some a) (hva : Vis sg a)
    (hG : LamX.GivesTo X Ng f sg g cdv bg a (X.env.qual ++ "<lambda>") (TTr X.K ft' Ng.length hd))
    (TB : LamX.TabB X.base X.mg c P) (hcode : X.env.code = .ref c) (hmT : (P, X.env.qual ++ "<lambda>") ∈ tbs X.K) (hu : ∀ p ∈ tbs X.K, p.1 = P → p.2 = X.env.qual ++ "<lambda>") (hr : Room (k + 2) X.A) (L : LamX.LamS X.env.scope scope) (hdef : defaultsOf params X.env = ([], []))
    (hbind : ∀ (q : Str) (cl : List (Str × Addr)) (pm cv ctv : Value), bindArgs (PySem.W.kla_fn "<lambda>" q params body scope cl pm cv ctv) ⟨[], []⟩ = pure [])
    (hbody : ∀ (A : Around) (outer : List PySem.Env) (s : Shared) (H : Hp) (E : XK) (f c' : Addr), Room k (A.deeper (LamX.lamEnv X scope s.heap.objs.size f c')) → PE (LamX.lamCx X A outer s H E scope f c') body (TEv X.K (fun c d _ H' => E c d H') ft' e))
    (hdb : (f == ("__debug__" : Str)) = false) (hd0 : (a == ("__debug__" : Str)) = false) (hcd : (a == ("__classdict__" : Str)) = false) :
    PE X (.Call (.Name f p) [.Lambda params body scope lpos] [] pos) (TEv X.K W ft (.lamc f e)) := by
  refine (LamX.pe_lamcall (T := tbs X.K) hg hm hk lk hcg hb Sg hNg hva hG TB hcode hmT hu hr L hdef hbind hbody hdb hd0 hcd).imp fun σ H Q ⟨μ, Ω, ρ, at_, q⟩ => ?_
  refine ⟨at_.wf.tab, fun H1 eN tb => ?_⟩
  have ex := Ext.tbl at_.wf eN tb
  have a1 := at_.ext ex
  rw [evE, hx] at q
  have q : Post X.K (rD X.K) W σ H μ Ω (runH ft' Ng.length hd (evE ft' e ρ Ω) Ω) Q := q
  refine ⟨μ, Ω, evE ft' e ρ Ω, ex.wf, fun E Q' h' => ⟨μ, Ω, ρ, a1, ?_⟩, ?_⟩
  · cases ee : evE ft' e ρ Ω with
    | ok d Ω' => rw [ee] at h'; exact h'
    | ex x Ω' => rw [ee] at h'; exact h'
    | bad => rw [ee] at h'; exact h'
  · have q := Post.ext ex q
    -- nothing is let out
    have nox : ∀ {r : R Rf.D}, (∀ x Ω', r ≠ .ex x Ω') → Post X.K (rD X.K) W σ H1 μ Ω r Q → Post X.K (rD X.K) (fun _ _ _ _ => False) [] H1 μ Ω r Q := fun {r} hn h => by
      cases r with
      | ok d Ω' => exact h
      | ex x Ω' => exact absurd rfl (hn x Ω')
      | bad => exact h
    refine nox (fun x Ω' z => ?_) q
    unfold runH at z
    have kept : ∀ {kp : Option KeepE} {x0 x : Exn} {Ω0 Ω' : Sto} {r : R Rf.D}, (∀ x Ω, r ≠ .ex x Ω) → keptH ft' kp x0 Ω0 r ≠ .ex x Ω' := fun {kp x0 x Ω0 Ω' r} hr z => by
      cases kp with
      | none => exact hr _ _ z
      | some k =>
        unfold keptH at z
        dsimp only at z
        split at z
        · split at z
          · split at z <;> cases z
          · exact hr _ _ z
        · cases z
    have fin : ∀ {rs : RS} {x : Exn} {Ω' : Sto}, finR rs ≠ .ex x Ω' := fun {rs x Ω'} z => by
      cases rs with
      | ok f _ => cases f <;> cases z
      | _ => cases z
    split at z
    · split at z
      · exact fin z
      · cases z
      · exact fin z
    · refine kept (fun x Ω z => ?_) z
      split at z
      · exact fin z
      · cases z
      · cases z
    · cases z
end
end Rf
end
section
namespace Rf
open PySem L2 PyProof.Rows
theorem fly_keeps {B : Heap} {l : List PySem.Env} {e : Addr} {Z : Obj → Prop} {h h' : Heap} (f : HandSPX.FlyingZ B l e Z h) (k : ∀ b o, h.get? b = some o → h'.get? b = some o) : HandSPX.FlyingZ B l e Z h' := by
  obtain ⟨f1, f2, f3, oe, vs, T, oT, ts, he, hz, hd, h1, hn, hne, hT, hdT, h3⟩ := f
  exact ⟨fun b o q => k b o (f1 b o q), f2, f3.of_keeps fun b o q _ => ⟨o, k b o q, rfl⟩, oe, vs, T, oT, ts, k _ _ he, hz, hd, h1, hn, hne, k _ _ hT, hdT, h3⟩
section
variable {X : Cx} {pins : List (Addr × Obj)} {σ : L2.St} {H : Hp} {s : Shared}
theorem inv_kept {a : Addr} {q : Addr × Obj} {pn' : List (Addr × Obj)} (I : L2.Inv (X.suite a (q :: (X.pn ++ pins))) pn' σ H s) (ok : X.Ok) : L2.Inv (X.tr (q :: (X.pn ++ pins)) X.xe) [] σ H s :=
  ⟨ok.toTry _ _, I.os, I.bare, I.base, I.loc, I.cell, I.free, I.freeC, fun p hp => I.pin p (List.mem_append_left _ (by rw [List.append_nil] at hp; exact hp)), I.hok, I.len⟩
theorem inv_unkept {q : Addr × Obj} {pn' : List (Addr × Obj)} {xe : Value → Shared → Prop} (I : L2.Inv (X.tr (q :: (X.pn ++ pins)) xe) pn' σ H s) (ok : X.Ok) : L2.Inv X pins σ H s :=
  ⟨ok, I.os, I.bare, I.base, I.loc, I.cell, I.free, I.freeC, fun p hp => I.pin p (List.mem_append_left _ (List.mem_cons_of_mem _ hp)), I.hok, I.len⟩
end
section
variable {X : Cx} {a C : Addr} {oe : Obj} {cls : Value} {d : Option Addr}
theorem pe_xfK {e : Expr} {te : TE} {pos : Pos} {n : Str} (T : XfC X.K C) (hno : PySem.W.findIn X.K (.ref C) n = some none) (hm : (a, oe) ∈ X.pn) (hz : Zc cls d oe) (hf : ∃ vs, oe.data = .fields vs) (he : PE X e te) (hb : attributeBase e n X.env (eval e X.env) = eval e X.env := by rfl) :
    PE X (.Attribute e n pos) (tXf a cls d C n te) := by
  refine ⟨fun pins s σ H Q I h => ?_⟩
  refine attr_of hb (thn (he.run pins s σ H _ I h) fun u s1 hh => ?_)
  obtain ⟨x, H1, I1, rx, ex, ec, dd, fs, v, ed, ea, l, q⟩ := hh
  subst ex
  obtain rfl : u = Value.ref a := rx
  subst ec
  subst ed
  obtain ⟨ha, _⟩ := I1.pin (a, oe) (List.mem_append_left _ hm)
  obtain ⟨vs, hd⟩ := hf
  have hx : ObjOk X.prog X.w H1 s1.heap dd (.xd fs) := I1.hok dd _ ea
  obtain ⟨mA, hns, hr⟩ := hx
  obtain ⟨od, ho, hl⟩ := lookIn_ns hns
  obtain ⟨u, hu, ru⟩ := RelO.some_of (v := v) (o := mA n) (by rw [← l]; exact hr n)
  have J : PySem.W.InstAt s1.heap a oe C (some od) := ⟨ha, hz.1, by unfold PySem.W.notCls; rw [hd] <;> rfl, by rw [hz.2]; exact ho⟩
  exact HandSPX.exc_get I1.kIn J T.ga T.gg T.exC (PySem.W.findObj_own T.hdC hno rfl (by rw [hl, hu])) (handed_of ru) ⟨v, H1, I1.tok _, ru, q⟩
theorem call_isK (T : XfC X.K C) (S : IsC X.K C) (ec : cls = .ref C) (hm : (a, oe) ∈ X.pn) (hz : Zc cls d oe) (hf : ∃ vs, oe.data = .fields vs) : CallR X (.builtin "isinstance") (rIsK X.K cls a d) := by
  intro pins s σ H xs us Q I r h
  obtain ⟨c, cv, b, rfl, hcv, e, ⟨dd, fs, ed, ea⟩, q⟩ := h
  subst ec
  subst ed
  cases r with
  | cons rx rr =>
    cases rr with
    | cons rt rr =>
      cases rr
      cases rx
      have ec := hcv _ rt
      subst ec
      obtain ⟨ha, _⟩ := I.pin (a, oe) (List.mem_append_left _ hm)
      obtain ⟨vs, hd⟩ := hf
      have hx : ObjOk X.prog X.w H s.heap dd (.xd fs) := I.hok dd _ ea
      obtain ⟨mA, hns, hr⟩ := hx
      obtain ⟨od, ho, hl⟩ := lookIn_ns hns
      have J : PySem.W.InstAt s.heap a oe C (some od) := ⟨ha, hz.1, by unfold PySem.W.notCls; rw [hd] <;> rfl, by rw [hz.2]; exact ho⟩
      exact PySem.W.kia_one (PySem.W.kitx_exc S.hc T.ga T.gg T.exC S.ha S.hn S.ht S.hm) I.kIn J e (fun z => nomatch z) fun tk => ⟨.bl b, H, I.kept (t' := tk) fun _ _ z => z, rfl, q⟩
end
section
variable {X : Cx} {body rest : List Stmt} {x1 x2 x3 x4 n y : Str} {c1 c2 c3 c4 : Value} {i j kk : Nat} {p1 p2 p3 p4 tpos py pn' pa pos' pos : Pos} {hds : List ExceptHandler} {l : List Cl2} {tb : WX → TS} {Wout : WX} {tr : TS} {tk' : Addr → Value → Option Addr → TS}
theorem pss_tryK (hs : X.stack = X.env :: X.outer) (hf : X.env.frame = some X.env.locals) (hN : X.N.Nodup) (tk : Takes X Wout)
    (hb : ∀ (W : WX) (pn : List (Addr × Obj)) (xe : Value → Shared → Prop), Takes (X.tr pn xe) W → PassesOwn (model X.prog X.w) X.A X.env xe → PSs (X.tr pn xe) body (tb W))
    (n1 : Names X x1 c1) (n2 : Names X x2 c2) (n3 : Names X x3 c3) (n4 : Names X x4 c4) (hi : X.N[i]? = some n) (hln : X.env.scope.names.lookup n = some .local) (hj : X.N[j]? = some y) (hly : X.env.scope.names.lookup y = some .local) (hij : j ≠ i) (hd : (n == ("__debug__" : Str)) = false) (hcd : (n == ("__classdict__" : Str)) = false)
    (hsw : ∀ line, swapsWith (.Name n pn') (some (.Name y py)) line X.env = pure false) (hh : Hds2 X hds l) (hr : PSs X rest tr)
    (hkp : ∀ (a : Addr) (oe : Obj) (cls : Value) (d : Option Addr) (pn : List (Addr × Obj)), Zc cls d oe → (∃ vs, oe.data = .fields vs) → PSs (X.tr ((a, oe) :: pn) X.xe) rest (tk' a cls d)) :
    PSs X (.Try body (.ExceptHandler (some (.Tuple [.Name x1 p1, .Name x2 p2, .Name x3 p3, .Name x4 p4] kk tpos)) (some n) [.Assign [.Name y py] (.Name n pn') pa] pos' :: hds) [] [] pos :: rest)
      (fun D σ H => tb (fun cls d σ H => σ.length = X.N.length → ∃ b, PySem.W.exmAny X.K cls [c1, c2, c3, c4] = some b ∧ (b = true → ∀ a, H a = none → tk' a cls d D (((σ.set i (some (.ref a))).set j (some (.ref a))).set i none) H) ∧ (b = false → wMany2 X.K Wout { D with nx := tr D } l cls d σ H)) { D with nx := tr D } σ H) := by
  refine ⟨fun pins s σ H D I h => ?_⟩
  have ok := I.ok
  have hfr : X.A.frames = some (X.env :: X.outer) := by rw [ok.frames, hs]
  generalize eP2 : (fun (f : Flow) (s1 : Shared) => match f with
    | .next => (∃ σ' H', L2.Inv X pins σ' H' s1 ∧ tr D σ' H') ∨ (∃ a oe cls d σ' H', Zc cls d oe ∧ (∃ vs, oe.data = .fields vs) ∧ L2.Inv (X.tr ((a, oe) :: (X.pn ++ pins)) X.xe) [] σ' H' s1 ∧ tk' a cls d D σ' H')
    | f => SP X pins D f s1 : Flow → Shared → Prop) = P2
  have P2n : ∀ s1, P2 .next s1 = ((∃ σ' H', L2.Inv X pins σ' H' s1 ∧ tr D σ' H') ∨ (∃ a oe cls d σ' H', Zc cls d oe ∧ (∃ vs, oe.data = .fields vs) ∧ L2.Inv (X.tr ((a, oe) :: (X.pn ++ pins)) X.xe) [] σ' H' s1 ∧ tk' a cls d D σ' H')) := fun s1 => by rw [← eP2]
  have P2b : ∀ s1, P2 .brk s1 = SP X pins D .brk s1 := fun s1 => by rw [← eP2]
  have P2c : ∀ s1, P2 .cont s1 = SP X pins D .cont s1 := fun s1 => by rw [← eP2]
  have P2r : ∀ u s1, P2 (.ret u) s1 = SP X pins D (.ret u) s1 := fun u s1 => by rw [← eP2]
  clear eP2
  refine wpAny_execs_cons (wpAny_mono (Q := P2) ?_ (fun f s1 q => ?_) (fun _ _ z => z))
  case refine_2 =>
    cases f with
    | next =>
      rw [P2n] at q
      rcases q with ⟨σ', H', I', q⟩ | ⟨a, oe, cls, d, σ', H', hz, hfl, I', q⟩
      · exact hr.run pins s1 σ' H' D I' q
      · refine wpAny_mono ((hkp a oe cls d (X.pn ++ pins) hz hfl).run [] s1 σ' H' D I' q) (fun f s2 hsp => ?_) (fun _ _ z => z)
        cases f with
        | next => obtain ⟨σ6, H6, S6, q6⟩ := hsp; exact ⟨_, _, inv_unkept S6 ok, q6⟩
        | brk => obtain ⟨σ6, H6, S6, q6⟩ := hsp; exact ⟨_, _, inv_unkept S6 ok, q6⟩
        | cont => obtain ⟨σ6, H6, S6, q6⟩ := hsp; exact ⟨_, _, inv_unkept S6 ok, q6⟩
        | ret u => obtain ⟨v6, σ6, H6, S6, r6, q6⟩ := hsp; exact ⟨_, _, _, inv_unkept S6 ok, r6, q6⟩
    | ret v => rw [P2r] at q; exact q
    | brk => rw [P2b] at q; exact q
    | cont => rw [P2c] at q; exact q
  refine wpAny_Try_except ?_
  refine wpAny_mono ((hb (fun cls d σ H => σ.length = X.N.length → ∃ b, PySem.W.exmAny X.K cls [c1, c2, c3, c4] = some b ∧ (b = true → ∀ a, H a = none → tk' a cls d D (((σ.set i (some (.ref a))).set j (some (.ref a))).set i none) H) ∧ (b = false → wMany2 X.K Wout { D with nx := tr D } l cls d σ H)) (X.pn ++ pins) (fun e s₁ => wpAny (model X.prog X.w) X.A (noteFrame e X.env) (fun _ s₂ => wpAny (model X.prog X.w) X.A (setFlight e none) (fun _ s₃ =>
    wpAny (model X.prog X.w) X.A (handleBy e X.env (.ExceptHandler (some (.Tuple [.Name x1 p1, .Name x2 p2, .Name x3 p3, .Name x4 p4] kk tpos)) (some n) [.Assign [.Name y py] (.Name n pn') pa] pos' :: hds)) P2 X.xe s₃) X.xe s₂) X.xe s₁) (fun u s' xx => ?_) PassesOwn.looking).run [] s σ H { D with nx := tr D } (I.toTry _) h) (fun f s1 hsp => ?_) (fun e s1 he => he)
  · obtain ⟨a, B, sI, pins', σ', H', cls, d, rfl, J', nb, up, sky, na, os, ag, w⟩ := xx
    have J : L2.Inv X pins σ' H' sI := J'.ofTry ok
    have w := w J.len
    have sky' : Sky B (X.env :: X.outer) a (Zc cls d) X.env.locals s'.heap := by rw [← hs]; exact sky
    show wpAny (model X.prog X.w) X.A (noteFrame (.ref a) X.env) _ _ _
    refine Sky.land Zc.steady hfr hf sky' fun h3 fl3 up3 => ?_
    have notFr : ∀ {h : Heap} {o : Obj} {vs : Array Value}, h.FunFrames B (X.env :: X.outer) → h.get? a = some o → o.data = .fields vs → a ∉ frs (X.env :: X.outer) := fun {h o vs} ff e dd hm => by
      obtain ⟨_, o', e', hnf⟩ := ff.mem hm
      rw [e] at e'; cases e'
      exact hnf _ dd
    obtain ⟨nL, nF⟩ : a ≠ X.env.locals ∧ a ∉ X.fs := by
      obtain ⟨oe3, vs3, he3, hz3, hd3⟩ := fl3.there
      have nfr := notFr fl3.2.2.1 he3 hd3
      refine ⟨fun z => nfr (List.mem_filterMap.mpr ⟨X.env, List.mem_cons_self, by rw [hf, z]⟩), fun hm => ?_⟩
      obtain ⟨e, he, q⟩ := List.mem_filterMap.mp hm
      exact nfr (List.mem_filterMap.mpr ⟨e, List.mem_cons_of_mem _ he, q⟩)
    have go : ∀ {hds' : List ExceptHandler} {l' : List Cl2}, Hds2 X hds' l' → wMany2 X.K Wout { D with nx := tr D } l' cls d σ' H' → ∀ h3, HandSPX.FlyingZ B (X.env :: X.outer) a (Zc cls d) h3 → s'.heap.UpToSlots h3 →
        wpAny (model X.prog X.w) X.A (handleBy (.ref a) X.env hds') P2 X.xe { s' with heap := h3 } := by
      intro hds' l' hk
      induction hk with
      | nil =>
        intro w h3 fl3 up3
        have J3 : L2.Inv X pins σ' H' { s' with heap := h3 } := J.landed nb fl3.1 (up.trans up3) os ag
        refine wpAny_handleBy_nil ?_
        obtain ⟨k1, k2, k3, oe, vs, T, oT, ts', he, hz, hd, h1, hr⟩ := id fl3
        unfold PySem.passOn
        refine wpAny_bind (wpAny_field he hd h1 ?_)
        rw [if_neg (show ¬ ((Value.ref T == Value.none) = true) from by simp)]
        have fin : wpAny (model X.prog X.w) X.A (setFlight (.ref a) X.env.frame) (fun _ s4 => wpAny (model X.prog X.w) X.A (throw (.ref a) : Sem Flow) P2 X.xe s4) X.xe { s' with heap := h3 } := by
          rw [hf]
          refine HandSPX.setFlight_upZ fl3 fun h4 hh4 up4 => wpAny_throw (tk _ _ ?_)
          exact ⟨a, B, sI, pins, σ', H', cls, d, rfl, J, nb, (up.trans up3).trans up4, .inr (.inr (by rw [hs]; exact hh4)), na, os, ag, w⟩
        first
          | exact wpAny_bind (wpAny_pure (wpAny_bind fin))
          | exact wpAny_bind fin
      | @cons x c nm i ts b₀ suite np pos' hds2 l2 hc hn hsu r ih =>
        intro w h3 fl3 up3
        have J3 : L2.Inv X pins σ' H' { s' with heap := h3 } := J.landed nb fl3.1 (up.trans up3) os ag
        obtain ⟨oe3, vs3, he3, hz3, hd3⟩ := fl3.there
        have S3 := J3.suite he3 hd3 na nL nF
        obtain ⟨b, hb1, hyes, hno⟩ := w
        refine wpAny_handleBy_cons (codeAny_handlers_test ?_) (by intro q; cases q)
        have LT : PySem.W.Looks (model X.prog X.w) h3 (typeOf (.ref a)) cls := fun A Q E s k q => wpAny_typeOf_ref (k _ _ he3) (by rw [hz3.1]; exact q)
        have LM := PySem.W.exm_one (M := model X.prog X.w) (J3.kIn) LT hb1
        have test : ∀ {Q : Value → Shared → Prop} {E : Value → Shared → Prop}, Q c { s' with heap := h3 } → wpAny (model X.prog X.w) (X.A.mark (some (.ref a))) (eval (.Name x np) X.env) Q E { s' with heap := h3 } := fun {Q E} q => by
          obtain ⟨hg, hdbg, hm | ⟨hm, hv, hnn⟩⟩ := hc
          · exact ld_glob (X := X.suite a ((a, oe3) :: (X.pn ++ pins))) S3 hg hm q hdbg
          · exact ld_blt (X := X.suite a ((a, oe3) :: (X.pn ++ pins))) S3 hg hm hv q hnn hdbg
        refine test (LM.here ?_)
        cases b with
        | true =>
          rcases hn with ⟨rfl, rfl⟩ | ⟨n, j, rfl, rfl, hj, hln⟩
          · refine codeAny_handlers_suite ?_
            refine HandSPX.lands_againZ fl3 fun h4 fl4 up4 => ?_
            have J4 : L2.Inv X pins σ' H' { s' with heap := h4 } := J.landed nb fl4.1 ((up.trans up3).trans up4) os ag
            obtain ⟨oe4, vs4, he4, hz4, hd4⟩ := fl4.there
            have S4 := J4.suite he4 hd4 na nL nF
            refine wpAny_mono ((hsu a oe4 cls d (X.pn ++ pins) hz4 ⟨_, hd4⟩).run [] _ _ H' _ S4 (hyes rfl a na)) (fun f s6 hsp => ?_) (fun _ _ z => False.elim z)
            show P2 f s6
            cases f with
            | next =>
              obtain ⟨σ6, H6, S6, q6⟩ := hsp
              rw [P2n]
              exact .inl ⟨_, _, S6.unsuite ok, q6⟩
            | brk =>
              obtain ⟨σ6, H6, S6, q6⟩ := hsp
              rw [P2b]
              exact ⟨_, _, S6.unsuite ok, q6⟩
            | cont =>
              obtain ⟨σ6, H6, S6, q6⟩ := hsp
              rw [P2c]
              exact ⟨_, _, S6.unsuite ok, q6⟩
            | ret u =>
              obtain ⟨v6, σ6, H6, S6, r6, q6⟩ := hsp
              rw [P2r]
              exact ⟨_, _, _, S6.unsuite ok, r6, q6⟩
          · have hloc : Loc X.env.scope n := .inl hln
            refine codeAny_handlers_suite_as ?_
            refine HandSPX.lands_againZ fl3 fun h4 fl4 up4 => ?_
            have J4 : L2.Inv X pins σ' H' { s' with heap := h4 } := J.landed nb fl4.1 ((up.trans up3).trans up4) os ag
            obtain ⟨oe4, vs4, he4, hz4, hd4⟩ := fl4.there
            have S4 := J4.suite he4 hd4 na nL nF
            refine store_ok (X := X.suite a ((a, oe4) :: (X.pn ++ pins))) (v := .ref a) S4 hN hj hloc rfl (fun s5 S5 => ?_) (.inr hln)
            refine wpAny_mono ((hsu a oe4 cls d (X.pn ++ pins) hz4 ⟨_, hd4⟩).run [] s5 _ H' _ S5 (hyes rfl a na)) (fun f s6 hsp => ?_) (fun _ _ z => False.elim z)
            have end_ : ∀ {σ6 : L2.St} {H6 : Hp} {Q : Shared → Prop}, L2.Inv (X.suite a ((a, oe4) :: (X.pn ++ pins))) [] σ6 H6 s6 → (∀ s7, L2.Inv X pins (σ6.set j none) H6 s7 → Q s7) →
                wpAny (model X.prog X.w) X.A (do bindName X.env n .none; unbindBehindTheSuite X.env n pos') (fun _ s7 => Q s7) X.xe s6 := fun {σ6 H6 Q} S6 hq => gone_ok (S6.unsuite ok) hN hj hln hq
            cases f with
            | next =>
              obtain ⟨σ6, H6, S6, q6⟩ := hsp
              exact end_ S6 fun s7 J7 => by rw [P2n]; exact .inl ⟨_, _, J7, q6⟩
            | brk =>
              obtain ⟨σ6, H6, S6, q6⟩ := hsp
              exact end_ S6 fun s7 J7 => by rw [P2b]; exact ⟨_, _, J7, q6⟩
            | cont =>
              obtain ⟨σ6, H6, S6, q6⟩ := hsp
              exact end_ S6 fun s7 J7 => by rw [P2c]; exact ⟨_, _, J7, q6⟩
            | ret u =>
              obtain ⟨v6, σ6, H6, S6, r6, q6⟩ := hsp
              exact end_ S6 fun s7 J7 => by rw [P2r]; exact ⟨_, _, _, J7, r6, q6⟩
        | false =>
          show wpAny _ X.A (handleBy (.ref a) X.env hds2) _ _ _
          exact ih (hno rfl) h3 fl3 up3
    have J3 : L2.Inv X pins σ' H' { s' with heap := h3 } := J.landed nb fl3.1 (up.trans up3) os ag
    obtain ⟨oe3, vs3, he3, hz3, hd3⟩ := fl3.there
    have S3 := J3.suite he3 hd3 na nL nF
    obtain ⟨b, hb1, hyes, hno⟩ := w
    refine wpAny_handleBy_cons (codeAny_handlers_test ?_) (by intro q; cases q)
    have LT : PySem.W.Looks (model X.prog X.w) h3 (typeOf (.ref a)) cls := fun A Q E s k q => wpAny_typeOf_ref (k _ _ he3) (by rw [hz3.1]; exact q)
    have test : ∀ {x : Str} {c : Value} {np : Pos} {Q : Value → Shared → Prop} {E : Value → Shared → Prop}, Names X x c → Q c { s' with heap := h3 } → wpAny (model X.prog X.w) (X.A.mark (some (.ref a))) (eval (.Name x np) X.env) Q E { s' with heap := h3 } := fun {x c np Q E} hc q => by
      obtain ⟨hg, hdbg, hm | ⟨hm, hv, hnn⟩⟩ := hc
      · exact ld_glob (X := X.suite a ((a, oe3) :: (X.pn ++ pins))) S3 hg hm q hdbg
      · exact ld_blt (X := X.suite a ((a, oe3) :: (X.pn ++ pins))) S3 hg hm hv q hnn hdbg
    refine wpAny_Tuple ?_
    refine wpAny_items_cons (test n1 ?_)
    refine wpAny_items_cons (test n2 ?_)
    refine wpAny_items_cons (test n3 ?_)
    refine wpAny_items_cons (test n4 ?_)
    refine wpAny_items_nil ⟨by size_fits, ?_⟩
    have kp : ∀ q o, h3.get? q = some o → (h3.push { cls := .type "tuple", data := .seq [c1, c2, c3, c4].toArray }).get? q = some o := fun _ _ z => Heap.get?_push_of_some _ z
    have fl3p := fly_keeps fl3 kp
    have up3p : s'.heap.UpToSlots _ := up3.trans (Heap.UpToSlots.of_keeps kp)
    refine (PySem.W.exm_tup4 (M := model X.prog X.w) (J3.kIn.keeps kp) (LT.keeps kp) (Heap.get?_push_size h3 rfl) hb1).here ?_
    cases b with
    | true =>
      have hloc : Loc X.env.scope n := .inl hln
      refine codeAny_handlers_suite_as ?_
      refine HandSPX.lands_againZ fl3p fun h4 fl4 up4 => ?_
      have J4 : L2.Inv X pins σ' H' { s' with heap := h4 } := J.landed nb fl4.1 ((up.trans up3p).trans up4) os ag
      obtain ⟨oe4, vs4, he4, hz4, hd4⟩ := fl4.there
      have S4 := J4.suite he4 hd4 na nL nF
      refine store_ok (X := X.suite a ((a, oe4) :: (X.pn ++ pins))) (v := .ref a) S4 hN hi hloc rfl (fun s5 S5 => ?_) (.inr hln)
      have li : i < σ'.length := by rw [J.len]; exact (List.getElem?_eq_some_iff.mp hi).1
      refine wpAny_mono ((pss_one (ps_set (X := X.suite a ((a, oe4) :: (X.pn ++ pins))) hN hj (.inl hly) (pe_var hi (.inl hln) hd hcd) (hsw _) (.inr hly))).run [] s5 _ H' { nx := fun σ6 H6 => tk' a cls d D (σ6.set i none) H6, rt := fun _ _ => False, bk := fun _ _ => False, ct := fun _ _ => False } S5 ⟨.ref a, List.getElem?_set_self li, hyes rfl a na⟩) (fun f s6 hsp => ?_) (fun _ _ z => False.elim z)
      cases f with
      | next =>
        obtain ⟨σ6, H6, S6, q6⟩ := hsp
        exact gone_ok (X := X.tr ((a, oe4) :: (X.pn ++ pins)) X.xe) (inv_kept S6 ok) hN hi hln fun s7 J7 => by rw [P2n]; exact .inr ⟨a, oe4, cls, d, _, _, hz4, ⟨_, hd4⟩, J7, q6⟩
      | brk => obtain ⟨σ6, H6, S6, q6⟩ := hsp; exact q6.elim
      | cont => obtain ⟨σ6, H6, S6, q6⟩ := hsp; exact q6.elim
      | ret u => obtain ⟨v6, σ6, H6, S6, r6, q6⟩ := hsp; exact q6.elim
    | false =>
      show wpAny _ X.A (handleBy (.ref a) X.env hds) _ _ _
      exact go hh (hno rfl) _ fl3p up3p
  · cases f with
    | next =>
      obtain ⟨σ', H', J', q⟩ := hsp
      exact wpAny_execs_nil (by rw [P2n]; exact .inl ⟨σ', H', J'.ofTry ok, q⟩)
    | brk =>
      obtain ⟨σ', H', J', q⟩ := hsp
      show P2 _ _
      rw [P2b]
      exact ⟨σ', H', J'.ofTry ok, q⟩
    | cont =>
      obtain ⟨σ', H', J', q⟩ := hsp
      show P2 _ _
      rw [P2c]
      exact ⟨σ', H', J'.ofTry ok, q⟩
    | ret u =>
      obtain ⟨v, σ', H', J', r, q⟩ := hsp
      show P2 _ _
      rw [P2r]
      exact ⟨v, σ', H', J'.ofTry ok, r, q⟩
end
end Rf
end
section
namespace PySem.HandSPX
open PySem PySem.Spec PyProof.Rows
section
variable {M : Model} {A : Around} {E : Value → Shared → Prop} {h : Heap} {g : Array GenState} {d : Drawn} {t : Nat} {os : OsState}
variable {nm q : Str} {C N : Addr} {bs bm bmB : List Value} {hdct : Bool} {sn : List Str} {sub : List Value} {ab : Bool} {col : Option Bool} {dd : Option Addr} {k0 k1 k2 k3 k5 : Option Value} {B newId initId : String} {kn : Str} {kv : Value}
theorem check_new_kw (F : ExcBaseFacts B newId initId bmB) (hT : ∀ X : String, bm.contains (.type X) = bmB.contains (.type X)) {rest : List Value} {Q : Unit → Shared → Prop}
    (hC : h.get? C = some (excClassObj nm q C N bs bm hdct sn sub ab col dd k0 k1 k2 k3 k5 newId)) (hq : Q () ⟨h, g, d, t, os⟩) : wpAny M A (checkBuiltinCall newId ⟨.ref C :: rest, [(kn, kv)]⟩) Q E ⟨h, g, d, t, os⟩ := by
  have hcont : (Value.ref C :: bm).contains (.type B) = true := by rw [List.contains_cons, hT, F.hasB, Bool.or_true]
  have hstar := F.noStar
  simp only [checkBuiltinCall, F.newKind, F.newSplit, F.newRow]
  repeat (first | refine wpAny_loadPart_at hC ?_ | (refine wpAny_isSubtype_exc hC ?_; rw [hcont]) | refine wpAny_staticBase_exc hC ?_ | refine wpAny_madeBy_exc hC ?_ | simp only [bne_self_eq_false, Bool.false_eq_true, if_false] | wp_step)
  exact hq
end
section
variable {prog : Program} {w : World} {A : Around} {E : Value → Shared → Prop} {R : Result → Shared → Prop} {h : Heap} {g : Array GenState} {d : Drawn} {t : Nat} {os : OsState}
variable {nm q : Str} {C N : Addr} {bs bm bmB : List Value} {hdct : Bool} {sn : List Str} {sub : List Value} {ab : Bool} {col : Option Bool} {dd : Option Addr} {k0 k1 k2 k3 k5 : Option Value} {B newId initId : String} {kn : Str} {kv : Value}
theorem new_kw (F : ExcBaseFacts B newId initId bmB) (hT : ∀ X : String, bm.contains (.type X) = bmB.contains (.type X)) {rest : List Value}
    (hC : h.get? C = some (excClassObj nm q C N bs bm hdct sn sub ab col dd k0 k1 k2 k3 k5 newId))
    (hq : R (.ok (.ret (.ref (h.objs.size + 1)))) ⟨(h.push { cls := .type "tuple", data := .seq rest.toArray }).push
      { cls := .ref C, data := .fields #[.ref h.objs.size, .none, .none, .none, .bool false, .none] }, g, d, t, os⟩) (hrest : rest.length ≤ sizeLine) :
    codeAny (model prog w) A (.builtin newId ⟨.ref C :: rest, [(kn, kv)]⟩) R ⟨h, g, d, t, os⟩ := by
  have hends := F.ends
  have hcB : (Value.ref C :: bm).contains (.type B) = true := by rw [List.contains_cons, hT, F.hasB, Bool.or_true]
  have hcA : (Value.ref C :: bm).contains (.type "AttributeError") = false := by rw [List.contains_cons, hT, F.noAttr]; rfl
  have hcN : (Value.ref C :: bm).contains (.type "NameError") = false := by rw [List.contains_cons, hT, F.noName]; rfl
  refine codeAny_builtinAt F.entry ?_
  unfold Builtin.«BaseException.__new__»
  refine wpAt_bind ?_
  show wpAt _ _ _ (stack >>= _) _ _ _
  refine wpAt_bind (wpAt_stack fun p below => wpAt_of_wpAny ?_)
  wp_walk
  refine wpAt_of_wpAny ?_
  rw [F.owner]
  repeat (first | with_reducible refine wpAny_madeHere_exc F.canon hC ?_ | with_reducible refine wpAny_loadPart_at hC ?_ | (with_reducible refine wpAny_isSubtype_exc hC ?_; first | rw [hcB] | rw [hcA] | rw [hcN]) | wp_step)
  show R _ _
  rw [Heap.size_push]
  exact hq
theorem type_call_kw (F : ExcBaseFacts B newId initId bmB) (hT : ∀ X : String, bm.contains (.type X) = bmB.contains (.type X)) {rest : List Value} {fI : Addr} {Q : Fin → Shared → Prop}
    (hC : h.get? C = some (excClassObj nm q C N bs bm hdct sn sub ab col dd k0 k1 k2 k3 k5 newId))
    (hi : W.Looks (model prog w) h (typeLookup (.ref C) "__init__") (some (.ref fI))) (hb : ∀ self, W.Looks (model prog w) h (bindSpecial (.ref fI) self) (.ref fI, [self])) (hrest : rest.length ≤ sizeLine)
    (hq : codeAny (model prog w) A (.call (.ref fI) ⟨.ref (h.objs.size + 1) :: rest, [(kn, kv)]⟩)
      (fun r s' => match r with | .ok (.ret v) => v = .none ∧ Q (.done (.ret (.ref (h.objs.size + 1)))) s' | .ok _ => False | .error e => E e s')
      ⟨(h.push (W.kdv_tup rest)).push (excO C h.objs.size), g, d, t, os⟩) :
    wpAny (model prog w) A (Builtin.«type.__call__» ⟨.ref C :: rest, [(kn, kv)]⟩) Q E ⟨h, g, d, t, os⟩ := by
  repeat (first | with_reducible refine wpAny_loadPart_at hC ?_ | with_reducible refine wpAny_madeBy_exc hC ?_ | wp_step)
  refine codeAny_call_builtin_code (Code.quiet_builtin _ F.quiet) (check_new_kw F hT hC ?_)
  refine new_kw F hT hC ?_ hrest
  show wpAny _ _ _ _ _ _
  have k : ∀ b o, h.get? b = some o → ((h.push (W.kdv_tup rest)).push (excO C h.objs.size)).get? b = some o := fun b o e => Heap.get?_push_of_some _ (Heap.get?_push_of_some _ e)
  have hC₁ := k _ _ hC
  have hget : ((h.push (W.kdv_tup rest)).push (excO C h.objs.size)).get? (h.objs.size + 1) = some (excO C h.objs.size) := by heap_get
  have hcC : (Value.ref C :: bm).contains (.ref C) = true := by simp
  have i1 := hi.keeps k
  have b1 := (hb (.ref (h.objs.size + 1))).keeps k
  unfold isInstance
  repeat (first | with_reducible refine wpAny_loadPart_at hget ?_ | (with_reducible refine wpAny_isSubtype_exc hC₁ ?_; rw [hcC]) | wp_step)
  show wpAny _ _ (typeLookup (.ref C) _) _ _ _
  refine i1.at ?_
  refine wpAny_holding (wpAny_bind (b1.at ?_))
  refine wpAny_bind (wpAny_call (codeAny_mono hq fun r s' z => ?_))
  rcases r with e | (v | _ | _ | _) <;> first | exact z | exact z.elim | skip
  obtain ⟨rfl, z⟩ := z
  first
    | exact wpAny_pure (wpAny_pure z)
    | (wp_walk; exact z)
theorem call_kw (F : ExcBaseFacts B newId initId bmB) (hT : ∀ X : String, bm.contains (.type X) = bmB.contains (.type X)) {rest : List Value} {fI : Addr}
    (hC : h.get? C = some (excClassObj nm q C N bs bm hdct sn sub ab col dd k0 k1 k2 k3 k5 newId))
    (hi : W.Looks (model prog w) h (typeLookup (.ref C) "__init__") (some (.ref fI))) (hb : ∀ self, W.Looks (model prog w) h (bindSpecial (.ref fI) self) (.ref fI, [self])) (hrest : rest.length ≤ sizeLine)
    (hq : codeAny (model prog w) (A.under (.builtin "type.__call__" ⟨.ref C :: rest, [(kn, kv)]⟩)) (.call (.ref fI) ⟨.ref (h.objs.size + 1) :: rest, [(kn, kv)]⟩) (W.InitBack (h.objs.size + 1) R)
      ⟨(h.push (W.kdv_tup rest)).push (excO C h.objs.size), g, d, t, os⟩) :
    codeAny (model prog w) A (.call (.ref C) ⟨rest, [(kn, kv)]⟩) R ⟨h, g, d, t, os⟩ := by
  have f1 := tc_lookup
  have f2 := tc_bind (.ref C)
  have hTy : (⟨h, g, d, t, os⟩ : Shared).TypeIs (.ref C) "type" := ⟨_, hC, rfl⟩
  refine codeAny_of_tree ?_
  show wpAny _ _ (callAny (.ref C) _) _ _ _
  repeat (any_goals (first | assumption | with_reducible refine wpAny_loadPart_at hC ?_ | wp_step))
  refine ⟨rfl, ?_⟩
  refine codeAny_call_builtin_at (Code.quiet_builtin _ (by decide +kernel)) entry_typeCall (wpAny_check_type_call_sub hC (type_call_kw F hT hC hi hb hrest ?_))
  refine codeAny_mono hq fun r s' z => ?_
  rcases r with e | (v | _ | _ | _) <;> exact z
end
end PySem.HandSPX
end
section
namespace Rf
open PySem L2 PyProof.Rows
section
variable {X : Cx} {W : WX} {ft : FT}
theorem pe_exv {CX : CXT} {x : Str} {C fI : Addr} {k : Nat} {fd : FuncData} {ps : List Str} {sp : Sp} {e : Expr} {es : List Expr} {ta : TA} {p pos : Pos} (T : OexC X.K C) (iC : PySem.W.findIn X.K (.ref C) "__init__" = some (some (.ref fI))) (tI : PySem.W.typeIn X.K (.ref fI) = some (.type "function"))
    (F1 : FnOk X.prog X.w X.K X.mg X.base CX k fI fd ps sp) (hr : Room (k + 1) X.A) (hb : L2.Binds X.K fd ps []) (hx : Passes CX X (fun _ _ _ => False)) (hg : Gl X x) (hm : X.mg x = some (.ref C)) (ha : PA X (e :: es) ta)
    (hdb : (x == ("__debug__" : Str)) = false) (he : starEach (e :: es) X.env = (false, eval e X.env) :: starEach es X.env) (hpl : (backTo pos (starEach es X.env)).any (·.1) = false) :
    PE X (.Call (.Name x p) (e :: es) [] pos) (fun σ H Q => ta σ H fun vs H1 => vs.length ≤ 1000 ∧ ∀ a, H1 a = none → sp (.ref a :: vs) (upd H1 a (exo a C none)) (fun v H2 => v = .non ∧ Q (.ref a) H2) (fun _ _ _ => False)) := by
  refine ⟨fun pins s σ H Q I h => ?_⟩
  obtain ⟨nm, q, N, bs, bm, sn, sub, ab, col, dd, k0, k1, k2, k3, k5, hC, hbm⟩ := T.cls
  refine wpAny_Call_Name_kw (ld_glob I hg hm ?_ hdb)
  refine PySem.W.callWith_K (h₀ := X.base) I.ok.mod.kin T.kC (thn (ha.run pos pins s σ H _ I h) fun us s1 ⟨vs, H1, I1, r1, hz, q1⟩ => ⟨I1.kIn, ?_⟩) he hpl
  show wpAny _ _ (call (.ref C) us) _ _ _
  obtain ⟨hp, g, dr, tk, os⟩ := s1
  have hsz : hp.objs.size ≤ hp.objs.size + 1 := Nat.le_succ _
  have hn : H1 (hp.objs.size + 1) = none := I1.hok.fresh hsz
  have hq := q1 (hp.objs.size + 1) hn
  have kk : ∀ b o, hp.get? b = some o → ((hp.push (PySem.W.kdv_tup us)).push (PySem.HandSPX.excO C hp.objs.size)).get? b = some o := fun b o e => Heap.get?_push_of_some _ (Heap.get?_push_of_some _ e)
  have hget : ((hp.push (PySem.W.kdv_tup us)).push (PySem.HandSPX.excO C hp.objs.size)).get? (hp.objs.size + 1) = some (PySem.HandSPX.excO C hp.objs.size) := by heap_get
  have I2 : L2.Inv X pins σ (upd H1 (hp.objs.size + 1) (exo (hp.objs.size + 1) C none)) ⟨(hp.push (PySem.W.kdv_tup us)).push (PySem.HandSPX.excO C hp.objs.size), g, dr, tk, os⟩ :=
    I1.laid (t' := tk) (a := hp.objs.size + 1) (o := exo (hp.objs.size + 1) C none) (h' := (hp.push (PySem.W.kdv_tup us)).push (PySem.HandSPX.excO C hp.objs.size)) kk hsz (exo_ok hget)
  have r2 : Vals (V.ref (hp.objs.size + 1) :: vs) (Value.ref (hp.objs.size + 1) :: us) := .cons rfl r1
  have hl : (Value.ref (hp.objs.size + 1) :: us ++ []).length = ps.length := by
    have e := r2.length
    rw [F1.len _ _ _ _ hq] at e
    rw [List.append_nil]
    exact e.symm
  have hus : us.length ≤ sizeLine := by
    rw [← Paired.length r1, sizeLine_eq]
    omega
  have hbb := hb _ (Value.ref (hp.objs.size + 1) :: us) I2.kIn hl
  rw [List.append_nil] at hbb
  refine wpAny_call (PySem.HandSPX.call_own F.excBase_ValueError (fun Y => PySem.HandSPX.refsVE_contains Y bm hbm) (I1.kIn _ _ hC) (PySem.W.looks_findIn I1.kIn iC) (fun self => PySem.W.bind_fn I1.kIn self tI) hus
    (codeAny_mono (F1.run _ X.stack _ _ ⟨Value.ref (hp.objs.size + 1) :: us, []⟩ (Value.ref (hp.objs.size + 1) :: us) _ _ (fun _ _ _ => False) (hr.make C us []) (I2.env0.make C us []) hbb r2 hq) fun r s' hq' => ?_))
  cases r with
  | error er => exact hx pins σ _ _ er s' I2 hq'
  | ok fl =>
    cases fl with
    | ret u =>
      obtain ⟨v, H', I3, rv, ev, q3⟩ := I2.after hq'
      subst ev
      exact ⟨rv, ⟨V.ref (hp.objs.size + 1), H', I3, rfl, q3⟩⟩
    | next => exact False.elim hq'
    | brk => exact False.elim hq'
    | cont => exact False.elim hq'
theorem pe_exv0 {CX : CXT} {x : Str} {C fI : Addr} {k : Nat} {fd : FuncData} {ps : List Str} {sp : Sp} {p pos : Pos} (T : OexC X.K C) (iC : PySem.W.findIn X.K (.ref C) "__init__" = some (some (.ref fI))) (tI : PySem.W.typeIn X.K (.ref fI) = some (.type "function"))
    (F1 : FnOk X.prog X.w X.K X.mg X.base CX k fI fd ps sp) (hr : Room (k + 1) X.A) (hb : L2.Binds X.K fd ps []) (hx : Passes CX X (fun _ _ _ => False)) (hg : Gl X x) (hm : X.mg x = some (.ref C))
    (hdb : (x == ("__debug__" : Str)) = false) :
    PE X (.Call (.Name x p) [] [] pos) (fun σ H Q => ∀ a, H a = none → sp [.ref a] (upd H a (exo a C none)) (fun v H2 => v = .non ∧ Q (.ref a) H2) (fun _ _ _ => False)) := by
  refine ⟨fun pins s σ H Q I q1 => ?_⟩
  obtain ⟨nm, qn, N, bs, bm, sn, sub, ab, col, dd, k0, k1, k2, k3, k5, hC, hbm⟩ := T.cls
  refine wpAny_Call_Name_kw (ld_glob I hg hm ?_ hdb)
  refine PySem.W.callWith_K0 I.kIn T.kC ?_
  show wpAny _ _ (call (.ref C) []) _ _ _
  obtain ⟨hp, g, dr, tk, os⟩ := s
  have hsz : hp.objs.size ≤ hp.objs.size + 1 := Nat.le_succ _
  have hn : H (hp.objs.size + 1) = none := I.hok.fresh hsz
  have hq := q1 (hp.objs.size + 1) hn
  have kk : ∀ b o, hp.get? b = some o → ((hp.push (PySem.W.kdv_tup [])).push (PySem.HandSPX.excO C hp.objs.size)).get? b = some o := fun b o e => Heap.get?_push_of_some _ (Heap.get?_push_of_some _ e)
  have hget : ((hp.push (PySem.W.kdv_tup [])).push (PySem.HandSPX.excO C hp.objs.size)).get? (hp.objs.size + 1) = some (PySem.HandSPX.excO C hp.objs.size) := by heap_get
  have I2 : L2.Inv X pins σ (upd H (hp.objs.size + 1) (exo (hp.objs.size + 1) C none)) ⟨(hp.push (PySem.W.kdv_tup [])).push (PySem.HandSPX.excO C hp.objs.size), g, dr, tk, os⟩ :=
    I.laid (t' := tk) (a := hp.objs.size + 1) (o := exo (hp.objs.size + 1) C none) (h' := (hp.push (PySem.W.kdv_tup [])).push (PySem.HandSPX.excO C hp.objs.size)) kk hsz (exo_ok hget)
  have r2 : Vals [V.ref (hp.objs.size + 1)] [Value.ref (hp.objs.size + 1)] := .cons rfl .nil
  have hl : ([Value.ref (hp.objs.size + 1)] ++ []).length = ps.length := (F1.len _ _ _ _ hq)
  refine wpAny_call (PySem.HandSPX.call_own F.excBase_ValueError (fun Y => PySem.HandSPX.refsVE_contains Y bm hbm) (I.kIn _ _ hC) (PySem.W.looks_findIn I.kIn iC) (fun self => PySem.W.bind_fn I.kIn self tI) (by rw [sizeLine_eq]; exact Nat.zero_le _)
    (codeAny_mono (F1.run _ X.stack _ _ ⟨[Value.ref (hp.objs.size + 1)], []⟩ ([Value.ref (hp.objs.size + 1)] ++ []) _ _ (fun _ _ _ => False) (hr.make C [] []) (I2.env0.make C [] []) (hb _ [Value.ref (hp.objs.size + 1)] I2.kIn hl) r2 hq) fun r s' hq' => ?_))
  cases r with
  | error er => exact hx pins σ _ _ er s' I2 hq'
  | ok fl =>
    cases fl with
    | ret u =>
      obtain ⟨v, H', I3, rv, ev, q3⟩ := I2.after hq'
      subst ev
      exact ⟨rv, ⟨V.ref (hp.objs.size + 1), H', I3, rfl, q3⟩⟩
    | next => exact False.elim hq'
    | brk => exact False.elim hq'
    | cont => exact False.elim hq'
theorem pe_exvk {CX : CXT} {x f : Str} {C fI : Addr} {k : Nat} {fd : FuncData} {sp : Sp} {e : Expr} {te : TE} {p pos kpos : Pos} (T : OexC X.K C) (iC : PySem.W.findIn X.K (.ref C) "__init__" = some (some (.ref fI))) (tI : PySem.W.typeIn X.K (.ref fI) = some (.type "function"))
    (F1 : FnOk X.prog X.w X.K X.mg X.base CX k fI fd [("self" : Str), f] sp) (hr : Room (k + 1) X.A) (hb : KwX X.K fd (some f)) (hx : Passes CX X (fun _ _ _ => False)) (hg : Gl X x) (hm : X.mg x = some (.ref C)) (he : PE X e te)
    (hdb : (x == ("__debug__" : Str)) = false) :
    PE X (.Call (.Name x p) [] [⟨some f, e, kpos⟩] pos) (fun σ H Q => te σ H fun v H1 => ∀ a, H1 a = none → sp [.ref a, v] (upd H1 a (exo a C none)) (fun v H2 => v = .non ∧ Q (.ref a) H2) (fun _ _ _ => False)) := by
  refine ⟨fun pins s σ H Q I h => ?_⟩
  obtain ⟨nm, q, N, bs, bm, sn, sub, ab, col, dd, k0, k1, k2, k3, k5, hC, hbm⟩ := T.cls
  have hkw : PK X [⟨some f, e, kpos⟩] (tCons te tNil) := pk_cons he pk_nil
  refine wpAny_Call_Name_kw (ld_glob I hg hm ?_ hdb)
  refine PySem.W.callWith_KW0 (h₀ := X.base) I.ok.mod.kin T.kC (by rfl) ?_ (by rfl)
  refine thn (hkw.run pos pins s σ H (fun vs H1 => match vs with | [v] => (∀ a, H1 a = none → sp [.ref a, v] (upd H1 a (exo a C none)) (fun v H2 => v = .non ∧ Q (.ref a) H2) (fun _ _ _ => False)) | _ => False) I h) fun ws s2 ⟨vs, H1, I1, r1, q1⟩ => ⟨I1.kIn, ?_⟩
  have hks : (backToKw pos (keywordEach [⟨some f, e, kpos⟩] X.env)).filterMap (·.1) = [f] := by rfl
  rw [hks]
  have two : ∃ v u, ws = [u] ∧ RelV v u ∧ ∀ a, H1 a = none → sp [.ref a, v] (upd H1 a (exo a C none)) (fun v H2 => v = .non ∧ Q (.ref a) H2) (fun _ _ _ => False) := by
    cases r1 with
    | nil => exact False.elim q1
    | cons rv0 rn =>
      cases rn with
      | nil => exact ⟨_, _, rfl, rv0, q1⟩
      | cons _ _ => exact False.elim q1
  clear q1 r1
  obtain ⟨v, u, rfl, rv0, q1⟩ := two
  · show wpAny _ _ (call (.ref C) [] [(f, u)]) _ _ _
    obtain ⟨hp, g, dr, tk, os⟩ := s2
    have hsz : hp.objs.size ≤ hp.objs.size + 1 := Nat.le_succ _
    have hn : H1 (hp.objs.size + 1) = none := I1.hok.fresh hsz
    have hq := q1 (hp.objs.size + 1) hn
    have kk : ∀ b o, hp.get? b = some o → ((hp.push (PySem.W.kdv_tup [])).push (PySem.HandSPX.excO C hp.objs.size)).get? b = some o := fun b o e => Heap.get?_push_of_some _ (Heap.get?_push_of_some _ e)
    have hget : ((hp.push (PySem.W.kdv_tup [])).push (PySem.HandSPX.excO C hp.objs.size)).get? (hp.objs.size + 1) = some (PySem.HandSPX.excO C hp.objs.size) := by heap_get
    have I2 : L2.Inv X pins σ (upd H1 (hp.objs.size + 1) (exo (hp.objs.size + 1) C none)) ⟨(hp.push (PySem.W.kdv_tup [])).push (PySem.HandSPX.excO C hp.objs.size), g, dr, tk, os⟩ :=
      I1.laid (t' := tk) (a := hp.objs.size + 1) (o := exo (hp.objs.size + 1) C none) (h' := (hp.push (PySem.W.kdv_tup [])).push (PySem.HandSPX.excO C hp.objs.size)) kk hsz (exo_ok hget)
    have r2 : Vals [V.ref (hp.objs.size + 1), v] [Value.ref (hp.objs.size + 1), u] := .cons rfl (.cons rv0 .nil)
    have hbb := (hb f rfl).to _ [Value.ref (hp.objs.size + 1)] [u] I2.kIn rfl rfl
    refine wpAny_call (PySem.HandSPX.call_kw F.excBase_ValueError (fun Y => PySem.HandSPX.refsVE_contains Y bm hbm) (I1.kIn _ _ hC) (PySem.W.looks_findIn I1.kIn iC) (fun self => PySem.W.bind_fn I1.kIn self tI) (by rw [sizeLine_eq]; exact Nat.zero_le _)
      (codeAny_mono (F1.run _ X.stack _ _ ⟨[Value.ref (hp.objs.size + 1)], [(f, u)]⟩ [Value.ref (hp.objs.size + 1), u] _ _ (fun _ _ _ => False) (hr.make C [] [(f, u)]) (I2.env0.make C [] [(f, u)]) hbb r2 hq) fun r s' hq' => ?_))
    cases r with
    | error er => exact hx pins σ _ _ er s' I2 hq'
    | ok fl =>
      cases fl with
      | ret u =>
        obtain ⟨v, H', I3, rv, ev, q3⟩ := I2.after hq'
        subst ev
        exact ⟨rv, ⟨V.ref (hp.objs.size + 1), H', I3, rfl, q3⟩⟩
      | next => exact False.elim hq'
      | brk => exact False.elim hq'
      | cont => exact False.elim hq'
theorem pe_exvN {C : Addr} {bmB : List Value} {B newId initId : String} {x : Str} {p pos : Pos} (F : ExcBaseFacts B newId initId bmB) (q : PySem.W.excIn X.K C bmB newId = true) (gC : X.mg x = some (.ref C)) (kC : PySem.W.keepIn X.K (.ref C) = true) (hg : Gl X x)
    (hdb : (x == ("__debug__" : Str)) = false) : PE X (.Call (.Name x p) [] [] pos) (fun σ H Q => ∀ a, H a = none → Q (.ref a) (upd H a (exo a C none))) := by
  refine ⟨fun pins s σ H Q I h => ?_⟩
  refine wpAny_Call_Name_kw (ld_glob I hg gC ?_ hdb)
  refine PySem.W.callWith_K0 I.kIn kC ?_
  show wpAny _ _ (call (.ref C) []) _ _ _
  obtain ⟨bm, N, nm, qn, bs, hdct, sn, sub, ab, col, dd, k0, k1, k2, k3, k5, mN, hC, hN, hni, T⟩ := exc_obj I.kIn q
  refine wpAny_call_exc_subT F T hC hN hni (fun h' a hm => ?_) (by rw [sizeLine_eq]; exact Nat.zero_le _)
  have hn : H a = none := I.hok.gone hm.new
  obtain ⟨t, ht, _, _⟩ := hm.there
  exact ⟨.ref a, upd H a (exo a C none), I.laidN hm.keeps hm.new hn (exo_ok ht), rfl, h a hn⟩
theorem ext_exn {K : Frg} {H : Hp} {μ : Mu} {Ω : Sto} (w : Wf K H μ Ω) {a d C : Addr} {fs : List (Str × V)} (ha : H a = none) (hd : upd H a (exo a C none) d = none) (ne : d ≠ a) :
    Ext K H μ Ω (upd (upd (upd H a (exo a C none)) d (exd d fs)) a (exo a C (some d))) μ Ω ∧ Fz (upd (upd (upd H a (exo a C none)) d (exd d fs)) a (exo a C (some d))) μ Ω a = some (exo a C (some d)) ∧ Fz (upd (upd (upd H a (exo a C none)) d (exd d fs)) a (exo a C (some d))) μ Ω d = some (exd d fs) := by
  have hd1 : H d = none := by rw [upd_ne ne] at hd; exact hd
  have e : upd (upd (upd H a (exo a C none)) d (exd d fs)) a (exo a C (some d)) = upd (upd H a (exo a C (some d))) d (exd d fs) := by
    funext b
    by_cases h1 : b = a
    · subst h1
      rw [upd_same, upd_ne (Ne.symm ne), upd_same]
    · rw [upd_ne h1]
      by_cases h2 : b = d
      · subst h2; rw [upd_same, upd_same]
      · rw [upd_ne h2, upd_ne h1, upd_ne h2, upd_ne h1]
  rw [e]
  have x1 := Ext.new (o := exo a C (some d)) w ha
  have hd2 : upd H a (exo a C (some d)) d = none := by rw [upd_ne ne]; exact hd1
  have x2 := Ext.new (o := exd d fs) x1.wf hd2
  refine ⟨x1.trans x2, x2.fz _ _ (Fz.new w ha fun _ => exo_tbl), Fz.new x1.wf hd2 fun ps z => ?_⟩
  have z : exd d fs = .tbl ps := z
  unfold exd at z
  cases z
theorem s_exn {c : Str} {fs : List Str} {es : List Expr} {el : EL} {p pos : Pos} (tk : Takes X W) (hx : ft.xf c = some fs) (F : XCl X c fs) (hg : Gl X c) (hm : X.mg c = some (.ref (He.ga X.K c))) (hdb : (c == ("__debug__" : Str)) = false)
    (ha : PA X es (TAv X.K W ft el)) (hp : es.all plainE = true) (hes : es = [] → el = .nil) (hlen : fs.length = es.length) : PE X (.Call (.Name c p) es [] pos) (TEv X.K W ft (.exn c el)) := by
  obtain ⟨g, fI, k, fd, rfl, T, iC, tI, F1, hr, hb, _⟩ := F
  have pass : Passes (L2.CX X.prog X.w) X (fun _ _ _ => False) := passes_call tk fun _ _ _ _ z => z.elim
  cases es with
  | nil =>
    have eel := hes rfl
    subst eel
    cases g with
    | some f => cases hlen
    | none =>
      refine (pe_exv0 T iC tI F1 hr hb pass hg hm hdb).imp fun σ H Q ⟨μ, Ω, ρ, at_, q⟩ a hn => ⟨a, rfl, upd_same, rfl, ?_⟩
      rw [evE] at q
      have q : Post X.K (rD X.K) W σ H μ Ω (match ft.xf c with | some fs => if ([] : List Rf.D).length = fs.length then .ok (.exn c (fs.zip [])) Ω else .bad | none => .bad) Q := q
      rw [hx] at q
      refine q _ _ μ (Ext.new at_.wf hn) ?_
      show Rep _ _ _ _ (.exn c []) _
      simp only [Rep]
      exact ⟨a, rfl, .inl ⟨by first | rfl | trivial, Fz.new at_.wf hn fun _ => exo_tbl⟩⟩
  | cons e es =>
    rw [List.all_cons, Bool.and_eq_true] at hp
    refine (pe_exv T iC tI F1 hr hb pass hg hm ha hdb (star_cons hp.1) (back_any hp.2)).imp fun σ H Q ⟨μ, Ω, ρ, at_, p⟩ => ?_
    have p : Post X.K (rD X.K) W σ H μ Ω ((evL ft el ρ Ω).bind fun ds Ω => match ft.xf c with | some fs => if ds.length = fs.length then .ok (.exn c (fs.zip ds)) Ω else .bad | none => .bad) Q := by rw [evE] at p; exact p
    obtain ⟨μ0, Ω0, ρ0, a0, p0⟩ := many at_ p
    refine ⟨μ0, Ω0, ρ0, a0, p0.mono ?_⟩
    rintro vs H1 ⟨μ1, Ω1, ds, a1, r1, p1⟩
    have p1 : Post X.K (rD X.K) W σ H1 μ1 Ω1 (match ft.xf c with | some fs => if ds.length = fs.length then .ok (.exn c (fs.zip ds)) Ω1 else .bad | none => .bad) Q := p1
    rw [hx] at p1
    have p1 : Post X.K (rD X.K) W σ H1 μ1 Ω1 (if ds.length = g.toList.length then .ok (.exn c (g.toList.zip ds)) Ω1 else .bad) Q := p1
    by_cases hl : ds.length = g.toList.length
    · rw [if_pos hl] at p1
      have lv := r1.length
      have small : vs.length ≤ 1000 := by
        rw [lv, hl]
        cases g with
        | none => exact Nat.zero_le _
        | some f => show 1 ≤ 1000; omega
      refine ⟨small, fun a hn => ?_⟩
      cases g with
      | none => cases hlen
      | some f =>
        have l1 : ds.length = 1 := hl
        match ds, vs, l1, lv, r1 with
        | [d0], [v], _, _, r1 =>
          refine ⟨a, v, rfl, upd_same, fun d hd ne => ⟨rfl, ?_⟩⟩
          obtain ⟨ex, f1, f2⟩ := ext_exn (fs := [(f, v)]) a1.wf hn hd ne
          refine p1 _ _ μ1 ex ?_
          show Rep _ _ _ _ (.exn c [(f, d0)]) _
          simp only [Rep]
          refine ⟨a, rfl, .inr ⟨d, [(f, v)], f1, f2, ?_⟩⟩
          simp only [Reps] at r1
          obtain ⟨v', ws, e1, r, _⟩ := r1
          cases e1
          simp only [RepS]
          exact ⟨v, [], rfl, Rep.tr ex.tr _ _ r, rfl⟩
    · rw [if_neg hl] at p1; exact False.elim p1
theorem s_exnk {c f : Str} {e : Expr} {a : E} {p pos kpos : Pos} (tk : Takes X W) (hx : ft.xf c = some [f]) (F : XCl X c [f]) (hg : Gl X c) (hm : X.mg c = some (.ref (He.ga X.K c))) (hdb : (c == ("__debug__" : Str)) = false)
    (he : PE X e (TEv X.K W ft a)) : PE X (.Call (.Name c p) [] [⟨some f, e, kpos⟩] pos) (TEv X.K W ft (.exnk c f a)) := by
  obtain ⟨g, fI, k, fd, eg, T, iC, tI, F1, hr, hb, KW⟩ := F
  have pass : Passes (L2.CX X.prog X.w) X (fun _ _ _ => False) := passes_call tk fun _ _ _ _ z => z.elim
  cases g with
  | none => cases eg
  | some g =>
    cases eg
    refine (pe_exvk T iC tI F1 hr KW pass hg hm he hdb).imp fun σ H Q ⟨μ, Ω, ρ, at_, q⟩ => ?_
    have q : Post X.K (rD X.K) W σ H μ Ω ((evE ft a ρ Ω).bind fun d Ω => match ft.xf c with | some fs => if fs = [f] then .ok (.exn c [(f, d)]) Ω else .bad | none => .bad) Q := by rw [evE] at q; exact q
    obtain ⟨μ0, Ω0, ρ0, a0, q0⟩ := one at_ q
    refine ⟨μ0, Ω0, ρ0, a0, q0.mono ?_⟩
    rintro v H1 ⟨μ1, Ω1, x, a1, r1, q1⟩
    have q1 : Post X.K (rD X.K) W σ H1 μ1 Ω1 (match ft.xf c with | some fs => if fs = [f] then .ok (.exn c [(f, x)]) Ω1 else .bad | none => .bad) Q := q1
    rw [hx] at q1
    have q1 : Post X.K (rD X.K) W σ H1 μ1 Ω1 (if [f] = [f] then .ok (.exn c [(f, x)]) Ω1 else .bad) Q := q1
    rw [if_pos rfl] at q1
    intro b hn
    refine ⟨b, v, rfl, upd_same, fun d hd ne => ⟨rfl, ?_⟩⟩
    obtain ⟨ex, f1, f2⟩ := ext_exn (fs := [(f, v)]) a1.wf hn hd ne
    refine q1 _ _ μ1 ex ?_
    show Rep _ _ _ _ (.exn c [(f, x)]) _
    simp only [Rep]
    refine ⟨b, rfl, .inr ⟨d, [(f, v)], f1, f2, ?_⟩⟩
    simp only [RepS]
    exact ⟨v, [], rfl, Rep.tr ex.tr _ _ r1, rfl⟩
theorem s_exn0 {bmB : List Value} {B newId initId : String} {c : Str} {p pos : Pos} (F : ExcBaseFacts B newId initId bmB) (q : PySem.W.excIn X.K (He.ga X.K c) bmB newId = true) (hm : X.mg c = some (.ref (He.ga X.K c))) (kC : PySem.W.keepIn X.K (.ref (He.ga X.K c)) = true) (hg : Gl X c)
    (h0 : ft.x0.contains c = true) (hdb : (c == ("__debug__" : Str)) = false) : PE X (.Call (.Name c p) [] [] pos) (TEv X.K W ft (.exn0 c)) := by
  refine (pe_exvN F q hm kC hg hdb).imp fun σ H Q ⟨μ, Ω, ρ, at_, p⟩ a hn => ?_
  rw [evE, if_pos h0] at p
  refine p _ _ μ (Ext.new at_.wf hn) ?_
  show Rep _ _ _ _ (.exn c []) _
  simp only [Rep]
  exact ⟨a, rfl, .inl ⟨by first | rfl | trivial, Fz.new at_.wf hn fun _ => exo_tbl⟩⟩
theorem s_xfl {l : Expr} {a : E} {f : Str} {pos : Pos} (hX : ∀ q gs, ft.xf q = some gs → XfC X.K (He.ga X.K q) ∧ ∀ f ∈ gs, PySem.W.findIn X.K (.ref (He.ga X.K q)) f = some none) (he : PE X l (TEv X.K W ft a))
    (hb : attributeBase l f X.env (eval l X.env) = eval l X.env) : PE X (.Attribute l f pos) (TEv X.K W ft (.xfl a f)) := by
  refine ⟨fun pins s σ H Q I h => ?_⟩
  obtain ⟨μ, Ω, ρ, at_, q⟩ := h
  have q : Post X.K (rD X.K) W σ H μ Ω ((evE ft a ρ Ω).bind fun x Ω => match (generalizing := false) x with
    | .exn c fs => (match (generalizing := false) ft.xf c with
      | some gs => if gs.contains f = true then opt (fs.lookup f) Ω else .bad
      | none => .bad)
    | _ => .bad) Q := by rw [evE] at q; exact q
  refine attr_of hb (thn (he.run pins s σ H _ I (by
    obtain ⟨μ0, Ω0, ρ0, a0, q0⟩ := one at_ q
    exact ⟨μ0, Ω0, ρ0, a0, q0⟩)) fun u s1 hh => ?_)
  obtain ⟨v, H1, I1, rx, μ1, Ω1, x, a1, r1, q1⟩ := hh
  have q1 : Post X.K (rD X.K) W σ H1 μ1 Ω1 (match (generalizing := false) x with
    | .exn c fs => (match (generalizing := false) ft.xf c with
      | some gs => if gs.contains f = true then opt (fs.lookup f) Ω1 else .bad
      | none => .bad)
    | _ => .bad) Q := q1
  cases x with
  | exn c fs =>
    have q1 : Post X.K (rD X.K) W σ H1 μ1 Ω1 (match (generalizing := false) ft.xf c with
      | some gs => if gs.contains f = true then opt (fs.lookup f) Ω1 else .bad
      | none => .bad) Q := q1
    cases ex : ft.xf c with
    | none => rw [ex] at q1; exact False.elim q1
    | some gs =>
      rw [ex] at q1
      have q1 : Post X.K (rD X.K) W σ H1 μ1 Ω1 (if gs.contains f = true then opt (fs.lookup f) Ω1 else .bad) Q := q1
      by_cases hf : gs.contains f = true
      · rw [if_pos hf] at q1
        cases el : fs.lookup f with
        | none => rw [el] at q1; exact False.elim q1
        | some d0 =>
          rw [el] at q1
          simp only [Rep] at r1
          obtain ⟨p, rfl, r1⟩ := r1
          rcases r1 with ⟨e0, _⟩ | ⟨d, ws, g1, g2, rs⟩
          · rw [e0] at el; cases el
          · obtain ⟨T, hno⟩ := hX c gs ex
            have hno := hno f (by simpa using hf)
            obtain rfl : u = Value.ref p := rx
            obtain ⟨t1, ho1⟩ := exo_at I1.hok (Fz.le g1)
            obtain ⟨mA, hn1, hr1⟩ := exd_at I1.hok (Fz.le g2)
            obtain ⟨od, ho, hl⟩ := lookIn_ns hn1
            obtain ⟨v', e1, r'⟩ := lookup_repS rs el
            obtain ⟨u', hu, ru⟩ := RelO.some_of (v := v') (o := mA f) (by rw [← e1]; exact hr1 f)
            have J : PySem.W.InstAt s1.heap p _ (He.ga X.K c) (some od) := ⟨ho1, rfl, rfl, ho⟩
            refine HandSPX.exc_get I1.kIn J T.ga T.gg T.exC (PySem.W.findObj_own T.hdC hno rfl (by rw [hl, hu])) (handed_of ru) ⟨v', H1, I1.tok _, ru, ?_⟩
            exact Post.here (rel := rD X.K) q1 a1.wf r'
      · rw [if_neg hf] at q1; exact False.elim q1
  | _ => exact False.elim q1
end
end Rf
end
section
namespace Rf
open PySem L2 PyProof.Rows
theorem xq_cls (K : Frg) (k : Xq) (c : Str) : ClsV (xqV K k c) (xqU K k c) := by cases k <;> constructor
section
variable {X : Cx} {W : WX} {ft : FT} {pos p : Pos} {l : Expr} {a : E} {c : Str} {k : Xq}
theorem pe_xqN (h : IsXF X.K X.mg ft c k) (hg : Gl X (xqN k c)) : PE X (.Name (xqN k c) p) (tC (xqV X.K k c)) := by
  have hm := h.mg
  unfold xqG at hm
  cases k with
  | leaf => exact pe_glob hg hm.1 rfl hm.2
  | base => exact pe_glob hg hm.1 rfl hm.2
  | blt => exact (show PE X (.Name "ValueError" p) (tC (.ty "ValueError")) from pe_bltn hg hm (by decide +kernel) rfl (by decide +kernel) (by decide +kernel))
theorem isx_one (F : IsXF X.K X.mg ft c k) : CallR X (.builtin "isinstance") (rIX X ft c k) := by
  intro pins s σ H xs us Q I rr h
  obtain ⟨x, b, rfl, hx, q⟩ := h
  obtain ⟨u1, u2, rfl, r1, r2⟩ := vals2 rr
  have e2 := (xq_cls X.K k c).eq r2
  subst e2
  rcases hx with ⟨rfl, hk, rfl⟩ | ⟨p', q', d, rfl, ea, hd, kn, rfl⟩
  · cases (show u1 = Value.none from r1)
    exact PySem.W.kia_one PySem.W.kitx_none I.kIn True.intro (F.non hk) (fun z => nomatch z) fun tk => ⟨.bl false, H, I.tok tk, rfl, q⟩
  · cases (show u1 = Value.ref p' from r1)
    obtain ⟨T, S, e⟩ := F.ans q' kn
    obtain ⟨t1, ho⟩ := exo_at I.hok ea
    have J : ∃ ox od, PySem.W.InstAt s.heap p' ox (He.ga X.K q') od := by
      rcases hd with rfl | ⟨dx, ws, rfl, eD⟩
      · exact ⟨_, none, ho, rfl, rfl, True.intro⟩
      · obtain ⟨mA, hn1, _⟩ := exd_at I.hok eD
        obtain ⟨od, h1, _⟩ := lookIn_ns hn1
        exact ⟨_, some od, ho, rfl, rfl, h1⟩
    obtain ⟨ox, od, J⟩ := J
    exact PySem.W.kia_one (PySem.W.kitx_exc S.hc T.ga T.gg T.exC S.ha S.hn S.ht S.hm) I.kIn J e (fun z => nomatch z) fun tk => ⟨.bl (k.is q' c), H, I.tok tk, rfl, q⟩
theorem s_isx {p2 : Pos} (F : IsXF X.K X.mg ft c k) (hgc : Gl X (xqN k c)) (hg : Gl X "isinstance") (hm : X.mg "isinstance" = none) (ha : PE X l (TEv X.K W ft a)) (hp : plainE l = true) :
    PE X (.Call (.Name "isinstance" p) [l, .Name (xqN k c) p2] [] pos) (TEv X.K W ft (.isx a c k)) := by
  refine (pe_callB (isx_one F) hg hm (by decide +kernel) (pa_cons ha (pa_cons (pe_xqN F hgc) pa_nil) (star_cons hp)) (by decide +kernel) (by decide +kernel) (star_cons hp) rfl).imp fun σ H Q ⟨μ, Ω, ρ, at_, q⟩ => ?_
  have q : Post X.K (rD X.K) W σ H μ Ω ((evE ft a ρ Ω).bind fun x Ω => match (generalizing := false) x with
    | .exn q _ => if ((ft.xf q).isSome || ft.x0.contains q) = true then .ok (.bl (k.is q c)) Ω else .bad
    | .non => if k = .leaf then .ok (.bl false) Ω else .bad
    | _ => .bad) Q := by rw [evE] at q; exact q
  obtain ⟨μ0, Ω0, ρ0, a0, q0⟩ := one at_ q
  refine ⟨μ0, Ω0, ρ0, a0, q0.mono ?_⟩
  rintro v H1 ⟨μ1, Ω1, x, a1, r1, q1⟩
  have q1 : Post X.K (rD X.K) W σ H1 μ1 Ω1 (match (generalizing := false) x with
    | .exn q _ => if ((ft.xf q).isSome || ft.x0.contains q) = true then .ok (.bl (k.is q c)) Ω1 else .bad
    | .non => if k = .leaf then .ok (.bl false) Ω1 else .bad
    | _ => .bad) Q := q1
  cases x with
  | exn q' fs =>
    have q1 : Post X.K (rD X.K) W σ H1 μ1 Ω1 (if ((ft.xf q').isSome || ft.x0.contains q') = true then .ok (.bl (k.is q' c)) Ω1 else .bad) Q := q1
    by_cases kn : ((ft.xf q').isSome || ft.x0.contains q') = true
    · rw [if_pos kn] at q1
      simp only [Rep] at r1
      obtain ⟨p', rfl, r1⟩ := r1
      refine ⟨.ref p', k.is q' c, rfl, .inr ?_, Post.here (rel := rD X.K) q1 a1.wf (by simp only [rD, Rep])⟩
      rcases r1 with ⟨_, g1⟩ | ⟨d, ws, g1, g2, _⟩
      · exact ⟨p', q', none, rfl, Fz.le g1, .inl rfl, kn, rfl⟩
      · exact ⟨p', q', some d, rfl, Fz.le g1, .inr ⟨d, ws, rfl, Fz.le g2⟩, kn, rfl⟩
    · rw [if_neg kn] at q1; exact False.elim q1
  | non =>
    have q1 : Post X.K (rD X.K) W σ H1 μ1 Ω1 (if k = .leaf then .ok (.bl false) Ω1 else .bad) Q := q1
    by_cases hk : k = .leaf
    · rw [if_pos hk] at q1
      simp only [Rep] at r1
      subst r1
      exact ⟨.non, false, rfl, .inl ⟨rfl, hk, rfl⟩, Post.here (rel := rD X.K) q1 a1.wf (by simp only [rD, Rep])⟩
    · rw [if_neg hk] at q1; exact False.elim q1
  | _ => exact False.elim q1
end
end Rf
end
section
namespace Rf
open PySem L2
section
variable {K : Frg} {W : WX} {ft : FT}
theorem dsp_pairs : ∀ (es : EL) {σ : St} {H : Hp} {μ : Mu} {Ω Ω' : Sto} {ρ : Env} {ds pp : List D}, At K σ H μ Ω ρ → evL ft es ρ Ω = .ok ds Ω' → pairUp ds = some pp → ∀ {Q : List (V × V) → Hp → Prop},
    (∀ ps H' μ', Ext K H μ Ω H' μ' Ω' → PR K (Fz H' μ' Ω') μ' Ω'.length ds ps → Q ps H') → tPairs (trs K W ft es) σ H Q
  | .nil, σ, H, μ, Ω, Ω', ρ, ds, pp, at_, e, hp, Q, q => by
    rw [evL] at e
    cases e
    exact q [] H μ (Ext.refl at_.wf) .nil
  | .cons k .nil, σ, H, μ, Ω, Ω', ρ, ds, pp, at_, e, hp, Q, q => by
    rw [evL] at e
    cases ek : evE ft k ρ Ω with
    | bad => rw [ek] at e; cases e
    | ex _ _ => rw [ek] at e; cases e
    | ok d Ω1 =>
      rw [ek] at e
      have e : (evL ft .nil ρ Ω1).bind (fun ds Ω => R.ok (d :: ds) Ω) = .ok ds Ω' := e
      rw [evL] at e
      cases e
      cases hp
  | .cons k (.cons v r), σ, H, μ, Ω, Ω', ρ, ds, pp, at_, e, hp, Q, q => by
    rw [evL] at e
    cases ek : evE ft k ρ Ω with
    | bad => rw [ek] at e; cases e
    | ex _ _ => rw [ek] at e; cases e
    | ok d Ω1 =>
      rw [ek] at e
      have e : (evL ft (.cons v r) ρ Ω1).bind (fun ds Ω => R.ok (d :: ds) Ω) = .ok ds Ω' := e
      rw [evL] at e
      cases ev : evE ft v ρ Ω1 with
      | bad => rw [ev] at e; cases e
      | ex _ _ => rw [ev] at e; cases e
      | ok d2 Ω2 =>
        rw [ev] at e
        have e : ((evL ft r ρ Ω2).bind fun ds Ω => R.ok (d2 :: ds) Ω).bind (fun ds Ω => R.ok (d :: ds) Ω) = .ok ds Ω' := e
        cases er : evL ft r ρ Ω2 with
        | bad => rw [er] at e; cases e
        | ex _ _ => rw [er] at e; cases e
        | ok ds2 Ω3 =>
          rw [er] at e
          cases e
          cases hq : pairUp ds2 with
          | none =>
            have : (pairUp ds2).map (.tup [d, d2] :: ·) = some pp := hp
            rw [hq] at this
            cases this
          | some pp2 =>
            refine ev_ok at_ ek fun x H1 μ1 ex1 r1 => ?_
            refine ev_ok ⟨ex1.wf, at_.env.tr ex1.tr⟩ ev fun y H2 μ2 ex2 r2 => ?_
            refine dsp_pairs r ⟨ex2.wf, (at_.env.tr ex1.tr).tr ex2.tr⟩ er hq fun ps H3 μ3 ex3 pr => ?_
            exact q _ H3 μ3 ((ex1.trans ex2).trans ex3) (.cons (Rep.tr ex3.tr _ _ (Rep.tr ex2.tr _ _ r1)) (Rep.tr ex3.tr _ _ r2) pr)
theorem dsp_keys {G : Hp} {μ : Mu} {n : Nat} : ∀ {ds : List D} {ps : List (V × V)}, PR K G μ n ds ps → ∀ {pp : List D} {kvs : List (Key × D)}, pairUp ds = some pp → pairsD pp = some kvs → ∃ ws : List (Key × V), ps = ws.map (fun kv => (kV kv.1, kv.2)) ∧ RepK K G μ n kvs ws
  | _, _, .nil, pp, kvs, h1, h2 => by
    cases h1
    cases h2
    exact ⟨[], rfl, by simp [RepK]⟩
  | _, _, @PR.cons _ _ _ _ k v r x y ps a b t, pp, kvs, h1, h2 => by
    cases hq : pairUp r with
    | none =>
      have : (pairUp r).map (.tup [k, v] :: ·) = some pp := h1
      rw [hq] at this
      cases this
    | some pp2 =>
      have e1 : (pairUp r).map (.tup [k, v] :: ·) = some pp := h1
      rw [hq] at e1
      cases e1
      have e2 : (match keyD k, pairsD pp2 with
        | some k, some r => some ((k, v) :: r)
        | _, _ => none) = some kvs := h2
      cases ek : keyD k with
      | none => rw [ek] at e2; cases e2
      | some q =>
        cases ep : pairsD pp2 with
        | none => rw [ek, ep] at e2; cases e2
        | some kvs2 =>
          rw [ek, ep] at e2
          cases e2
          obtain ⟨ws, rfl, rk⟩ := dsp_keys t hq ep
          refine ⟨(q, y) :: ws, ?_, ?_⟩
          · rw [List.map_cons, key_rep a ek]
          · simp only [RepK]
            exact ⟨y, ws, rfl, b, rk⟩
end
section
variable {X : Cx} {W : WX} {ft : FT} {pos : Pos} {es : EL}
theorem i_dsp {σ : St} {H : Hp} {Q : VK} (h : TEv X.K W ft (.dsp es) σ H Q) :
    tDisp (trs X.K W ft es) σ H fun v H1 => ∃ p u, v = .ref p ∧ H1 p = some u ∧ Mut (some u) ∧ ∀ od, Q v (upd H1 p (.frz od u)) := by
  obtain ⟨μ, Ω, ρ, at_, P⟩ := h
  have P : Post X.K (rD X.K) W σ H μ Ω ((evL ft es ρ Ω).nx.bind fun ds Ω => opt (dspD ds) Ω) Q := P
  cases ea : evL ft es ρ Ω with
  | bad => rw [ea] at P; exact False.elim P
  | ex _ _ => rw [ea] at P; exact False.elim P
  | ok ds Ω1 =>
    rw [ea] at P
    have P : Post X.K (rD X.K) W σ H μ Ω (opt (dspD ds) Ω1) Q := P
    unfold dspD at P
    cases h1 : pairUp ds with
    | none => rw [h1] at P; exact False.elim P
    | some pp =>
      rw [h1] at P
      simp only at P
      cases h2 : pairsD pp with
      | none => rw [h2] at P; exact False.elim P
      | some kvs =>
        rw [h2] at P
        simp only at P
        by_cases h15 : kvs.length ≤ 15
        · rw [if_pos h15] at P
          have P : Post X.K (rD X.K) W σ H μ Ω (.ok (.dk (mergeD [] kvs)) Ω1) Q := P
          intro p hp
          refine dsp_pairs es (μ := μ.hide p) ⟨at_.wf.hide (o := .dK []) hp trivial, hide_env at_.wf hp at_.env⟩ ea h1 fun ps H1 μ1 ex1 pr => ⟨hid_at ex1, ?_⟩
          obtain ⟨ws, e, rk⟩ := dsp_keys pr h1 h2
          refine ⟨ws, e, by rw [rk.length]; exact h15, p, _, rfl, upd_same, trivial, fun od => ?_⟩
          rw [upd_upd]
          have ex7 := Ext.unhide (o' := .frz od (.dK (mergeK [] ws))) at_.wf hp ex1
          have t7 := Tr.unhide (o' := .frz od (.dK (mergeK [] ws))) at_.wf hp ex1
          have f7 := Fz.unhide (o' := .frz od (.dK (mergeK [] ws))) at_.wf hp ex1
          refine P _ _ _ ex7 ?_
          simp only [rD, Rep]
          exact ⟨p, _, od, rfl, merge_rep (RepK.tr t7 _ _ rk) (by simp [RepK]), f7⟩
        · rw [if_neg h15] at P; exact False.elim P
theorem s_dsp {keys : List (Option Expr)} {values : List Expr} (h : PPs X pos keys values (trs X.K W ft es)) (hall : keys.all (·.isSome) = true) (hl : keys.length = values.length) (h0 : keys ≠ []) (h15 : keys.length ≤ 15) : PE X (.Dict keys values pos) (TEv X.K W ft (.dsp es)) :=
  (pe_disp h hall hl h0 h15).lock.imp fun _ _ _ h => i_dsp h
end
end Rf
end
section
namespace Rf
open PySem L2
section
variable {X : Cx} {W : WX} {ft : FT} {pos p : Pos} {l r o e' : Expr} {a b e k q : E} {ta tb : TE}
theorem pc_empty (ha : PE X l ta) (hb : PE X r tb) (hu : X.A.units + 64 < cLine) :
    PC X .Eq l r (fun σ H Q => ta σ H fun x H1 => tb σ H1 fun y H2 => ∃ p1 p2 xs, x = .ref p1 ∧ y = .ref p2 ∧ SqL X.K H2 p1 xs ∧ SqL X.K H2 p2 [] ∧ Q (.bl xs.isEmpty) H2) := by
  refine ⟨fun pins s σ H Q I h => binT ha hb I h fun v u s2 x y H2 I2 rx ry q => ?_⟩
  obtain ⟨p1, p2, xs, rfl, rfl, e1, e2, q⟩ := q
  cases rx
  cases ry
  obtain ⟨its, rv, pl, hz⟩ := I2.list e1
  obtain ⟨its2, rv2, pl2, hz2⟩ := I2.list e2
  have n2 : its2 = [] := by
    cases its2 with
    | nil => rfl
    | cons z zs => cases rv2
  subst n2
  cases xs with
  | nil =>
    have n1 : its = [] := by
      cases its with
      | nil => rfl
      | cons z zs => cases rv
    subst n1
    exact PySem.SeqAt.eq_listAt (e := fun _ => true) pl.isList pl2.isList rfl (by omega) (fun j h1 h2 => absurd h1 (by simp)) ⟨.bl true, H2, I2, rfl, q⟩
  | cons z zs =>
    cases its with
    | nil => cases rv
    | cons w ws => exact PySem.SeqAt.eq_list_lengthsAt pl.isList pl2.isList (by simp) (by omega) ⟨.bl false, H2, I2, rfl, q⟩
theorem ev_nil {ρ : Env} {Ω : Sto} : evE ft (.lst .nil) ρ Ω = .ok (.lst []) Ω := by
  rw [evE, evL]
  show (if ([] : List D).length ≤ big then R.ok (D.lst []) Ω else .bad) = _
  rw [if_pos (show ([] : List D).length ≤ big from Nat.zero_le _)]
theorem i_emp {σ : St} {H : Hp} {Q : VK} (h : TEv X.K W ft (.emp false a) σ H Q) :
    TEv X.K W ft a σ H fun x H1 => TEv X.K W ft (.lst .nil) σ H1 fun y H2 => ∃ p1 p2 xs, x = .ref p1 ∧ y = .ref p2 ∧ SqL X.K H2 p1 xs ∧ SqL X.K H2 p2 [] ∧ Q (.bl xs.isEmpty) H2 := by
  obtain ⟨μ, Ω, ρ, at_, p⟩ := h
  have p : Post X.K (rD X.K) W σ H μ Ω ((evE ft a ρ Ω).bind fun x Ω => match lk Ω x with
    | .lst xs => .ok (.bl (xs.isEmpty != false)) Ω
    | _ => .bad) Q := p
  have p : Post X.K (rD X.K) W σ H μ Ω ((evE ft a ρ Ω).bind fun x Ω => (evE ft (.lst .nil) ρ Ω).bind fun y Ω => match lk Ω x, y with
    | .lst xs, .lst [] => .ok (.bl (xs.isEmpty != false)) Ω
    | _, _ => .bad) Q := by
    have e : ∀ x Ω, ((evE ft (.lst .nil) ρ Ω).bind fun y Ω => match lk Ω x, y with
      | .lst xs, .lst [] => R.ok (D.bl (xs.isEmpty != false)) Ω
      | _, _ => .bad) = match lk Ω x with
      | .lst xs => .ok (.bl (xs.isEmpty != false)) Ω
      | _ => .bad := fun x Ω => by
      rw [ev_nil]
      show (match lk Ω x, D.lst [] with
        | .lst xs, .lst [] => R.ok (D.bl (xs.isEmpty != false)) Ω
        | _, _ => .bad) = _
      cases lk Ω x <;> rfl
    simp only [e]
    exact p
  obtain ⟨μ0, Ω0, ρ0, a0, p0⟩ := two at_ p
  refine ⟨μ0, Ω0, ρ0, a0, p0.mono ?_⟩
  rintro v H1 ⟨μ1, Ω1, ρ1, a1, p1⟩
  refine ⟨μ1, Ω1, ρ1, a1, p1.mono ?_⟩
  rintro u H2 ⟨μ2, Ω2, x, y, a2, r1, r2, p2⟩
  have vx := view a2.wf r1
  generalize lk Ω2 x = x' at vx p2
  cases x' with
  | lst xs =>
    cases y with
    | lst ys =>
      cases ys with
      | nil =>
        obtain ⟨q1, vs, rfl, rr, zz, c1⟩ := vx
        have v2 := view a2.wf r2
        obtain ⟨q2, vs2, rfl, rr2, zz2, c2⟩ := (show View X.K H2 μ2 Ω2 (.lst []) u from v2)
        have n2 : vs2 = [] := by have := rr2.length; exact List.length_eq_zero_iff.mp this
        subst n2
        have p2 : Post X.K (rD X.K) W σ H2 μ2 Ω2 (.ok (.bl (xs.isEmpty != false)) Ω2) Q := p2
        refine ⟨q1, q2, vs, rfl, rfl, .inl (.inl c1), .inl (.inl c2), ?_⟩
        have e : (xs.isEmpty != false) = vs.isEmpty := by
          have := rr.length
          cases xs <;> cases vs <;> first | rfl | (simp at this)
        rw [e] at p2
        exact p2 _ H2 μ2 (Ext.refl a2.wf) (by simp only [rD, Rep])
      | cons _ _ => exact False.elim p2
    | _ => exact False.elim p2
  | _ => exact False.elim p2
theorem s_emp (hu : X.A.units + 64 < cLine) (ha : PE X l (TEv X.K W ft a)) (hb : PE X r (TEv X.K W ft (.lst .nil))) (hk : behindInMarks .Eq r = false) : PE X (.Compare l [.Eq] [r] pos) (TEv X.K W ft (.emp false a)) :=
  (pe_cmp (pc_empty ha hb hu) hk).imp fun σ H Q h => i_emp h
theorem t_emp (hu : X.A.units + 64 < cLine) (ha : PE X l (TEv X.K W ft a)) (hb : PE X r (TEv X.K W ft (.lst .nil))) (hk : behindInMarks .Eq r = false) : PT X (.Compare l [.Eq] [r] pos) (TTv X.K W ft (.emp false a)) :=
  (pt_cmp (pc_empty ha hb hu) hk).imp fun σ H Q h => i_emp (tt_te h)
end
section
variable {X : Cx} {W : WX} {ft : FT} {pos p : Pos} {o1 i1 o2 i2 value : Expr} {a b e k l : E}
end
end Rf
end
section
namespace Rf
open PySem L2
theorem Ext.grow {K : Frg} {H H' : Hp} {μ : Mu} {Ω : Sto} (w : Wf K H μ Ω) (le : ∀ b o, H b = some o → H' b = some o) : Ext K H μ Ω H' μ Ω := by
  have fz : ∀ a u, Fz H μ Ω a = some u → Fz H' μ Ω a = some u := fun a u h => by
    obtain ⟨h1, h2⟩ := Fz.of h
    exact Fz.mk (le a u h1) h2
  have hk : ∀ a, a ∈ μ.hid → H' a = H a := fun a ha => by
    cases e : H a with
    | none => exact absurd e (w.hne a ha)
    | some o => exact le a o e
  refine ⟨⟨w.inj, fun k ob e hne => ?_, fun a ha => by rw [hk a ha]; exact w.hin a ha, w.hof, w.tab.ext le⟩, fz, fun _ _ => rfl, Nat.le_refl _, rfl, hk⟩
  obtain ⟨ho, q, r⟩ := w.ob k ob e hne
  exact ⟨ho, le _ _ q, r.tr (Tr.of_le fz (fun _ _ => rfl) (Nat.le_refl _))⟩
section
variable {X : Cx} {W : WX} {ft : FT} {l : Expr} {a : E} {p apos cpos pos : Pos}
end
end Rf
end
section
namespace Rf
open PySem PySem.Spec PyProof.Rows PySem.W
section
variable {prog : Program} {w : World} {K : Type} [DecidableEq K] {knd : KeyKind prog w K} {A : Around} {E : Value → Shared → Prop} {s : Shared}
theorem ItS.obj {h : Heap} {it d : Addr} {i n ep : Nat} (x : ItS h it d i n ep) : ∃ o, h.get? it = some o ∧ ∀ v, o.data ≠ .cell v := by
  rcases x with ⟨ok, ov, e⟩ | ⟨a, ok, ov, f, e, _⟩
  · exact ⟨_, e, fun v z => nomatch z⟩
  · exact ⟨_, e, fun v z => nomatch z⟩
theorem ItS.keep {h h' : Heap} {it d : Addr} {i n ep : Nat} (x : ItS h it d i n ep) (k : ∀ o, h.get? it = some o → h'.get? it = some o) : ItS h' it d i n ep := by
  rcases x with ⟨ok, ov, e⟩ | ⟨a, ok, ov, f, e, n⟩
  · exact .inl ⟨ok, ov, k _ e⟩
  · exact .inr ⟨a, ok, ov, f, k _ e, n⟩
end
open L2
section
variable {P : Program} {w : World} {K : PySem.W.Frag} {d : Addr} {o : Obj} {es : Array DictEntry} {ep : Nat}
end
section
variable {X : Cx} {W : WX} {ft : FT} {e l : Expr} {td : TE} {a : E} {apos cpos pos tpos : Pos} {x : Str}
end
end Rf
end
section
namespace Rf
open PySem L2
theorem cfL_ok {x : Option PySem.W.CFound} {g a o t : Value} (h : cfL x = some [g, a, o, t]) : x = some (.get g a o t) := by
  cases x with
  | none => cases h
  | some r =>
    cases r with
    | val v => cases h
    | get g' a' o' t' => cases h; rfl
theorem stB_ok {K : Frg} {k m : Str} (h : stB K k m = true) : StM K k m (stAd K k m) := by
  unfold stB at h
  obtain ⟨h1, h⟩ := Bool.and_eq_true_iff.mp h
  obtain ⟨h2, h⟩ := Bool.and_eq_true_iff.mp h
  obtain ⟨h3, h⟩ := Bool.and_eq_true_iff.mp h
  obtain ⟨h4, h5⟩ := Bool.and_eq_true_iff.mp h
  refine ⟨h1, He.eqO_ok h2, ⟨_, cfL_ok (of_decide_eq_true h4), ?_⟩, h3⟩
  have h6 := of_decide_eq_true h5
  obtain ⟨vs, e1, e2⟩ := Option.bind_eq_some_iff.mp h6
  cases vs with
  | nil => cases e2
  | cons v rest => exact ⟨rest, by rw [e1]; exact congrArg some (congrArg (· :: rest) (Option.some.inj e2))⟩
section
variable {X : Cx} {W : WX} {ft : FT} {pos p apos : Pos} {l : Expr} {es : List Expr} {el : EL}
theorem getst_ok {pins : List (Addr × Obj)} {σ : St} {H : Hp} {s : Shared} {A : Around} {E : Value → Shared → Prop} {k m : Str} {g : Addr} {pl : Sem Bool} {Q : Value × List Value → Shared → Prop} (I : Inv X pins σ H s) (S : StM X.K k m g) (q : ∀ s', Inv X pins σ H s' → Q (.ref g, []) s') :
    wpAny (model X.prog X.w) A (getMethod (.ref (He.ga X.K k)) m pl) Q E s := by
  obtain ⟨r, hf, rest, hr⟩ := S.at_
  exact PySem.W.method_cls I.kIn S.ga (PySem.W.cls_bind I.kIn S.rd hf (wpAny_call (PySem.W.sm_get (s := { s with toks := s.toks + 1 }) I.kIn hr (PySem.W.handed_on rfl (q _ (I.tok _))))))
theorem pe_static {CX : CXT} {n : Nat} {f : Addr} {fd : FuncData} {ps : List Str} {sp : Sp} {dvs : List V} {ds : List Value} {E : St → XK} {e : Expr} {k m : Str} {t : TA} (hg : Gl X k) (hm : X.mg k = some (.ref (He.ga X.K k))) (hdb : (k == ("__debug__" : Str)) = false) (S : StM X.K k m f)
    (F : FnOk X.prog X.w X.K X.mg X.base CX n f fd ps sp) (hr : Room n X.A) (hb : Binds X.K fd ps ds) (hd : Vals dvs ds) (hx : ∀ σ, PassesAt CX X σ (E σ)) (ha : PA X (e :: es) t)
    (hst : starEach (e :: es) X.env = (false, eval e X.env) :: starEach es X.env) (hpl : (backTo pos (starEach es X.env)).any (·.1) = false) {pl : Sem Bool}
    (ht : eval (.Call (.Attribute (.Name k p) m apos) (e :: es) [] pos) X.env = (do
      let ov ← eval (.Name k p) X.env
      standAt apos.atName
      let q ← holding [ov] (getMethod ov m pl)
      callWith pos q.1 q.2 (backTo pos (starEach (e :: es) X.env)) (backToKw pos (keywordEach [] X.env)))) :
    PE X (.Call (.Attribute (.Name k p) m apos) (e :: es) [] pos) (tCallSD sp dvs E t) := by
  refine ⟨fun pins s σ H Q I h => PySem.W.methodCall_KW (pl := pl) (ld_glob I hg hm (getst_ok I S fun s1 I1 => ?_) hdb) ht⟩
  refine PySem.W.callWith_K (first := []) (h₀ := X.base) I.ok.mod.kin S.kp (thn (ha.run pos pins s1 σ H _ I1 h) fun us s2 ⟨vs, H2, I2, rr, k2⟩ => ⟨I2.kIn, ?_⟩) hst hpl
  exact run_fnSD F hr hb hd (hx σ) I2 rr k2
theorem s_static {f k m : Str} {j : Nat} {ad : Addr} {g : List D → Sto → R D} (tk : Takes X W) (hf : ft.fn f = some g) (F : FnK X (ft.dfl f) ad g) (hj : j ≤ (ft.dfl f).length) (S : StM X.K k m ad) (hg : Gl X k) (hm : X.mg k = some (.ref (He.ga X.K k))) (hdb : (k == ("__debug__" : Str)) = false)
    (ha : PA X (l :: es) (TAv X.K W ft el)) (dt : Dot (.Name k p) apos pos (l :: es)) : PE X (.Call (.Attribute (.Name k p) m apos) (l :: es) [] pos) (TEv X.K W ft (.call f el j)) := by
  obtain ⟨n, fd, ps, F0, hr, hd⟩ := F.ex
  obtain ⟨dvs, dd, rd, vd, bd⟩ := hd j hj
  have hp := dt.pl
  rw [List.all_cons, Bool.and_eq_true] at hp
  refine (pe_static hg hm hdb S F0 (hr.mono (Nat.le_succ _)) bd vd (fun σ => passAt tk σ) ha (star_cons hp.1) (back_any hp.2) (meth_tree dt.sup dt.pl dt.few dt.line)).imp fun σ H Q ⟨μ, Ω, ρ, at_, p⟩ => ?_
  have p : Post X.K (rD X.K) W σ H μ Ω ((evL ft el ρ Ω).bind fun ds Ω => match ft.fn f with | some g => g (ds ++ (ft.dfl f).drop j) Ω | none => .bad) Q := p
  rw [hf] at p
  obtain ⟨μ0, Ω0, ρ0, a0, p0⟩ := many at_ p
  refine ⟨μ0, Ω0, ρ0, a0, p0.mono ?_⟩
  rintro vs H1 ⟨μ1, Ω1, ds, a1, r1, p1⟩
  exact sp_of a1.wf r1 rd p1
end
end Rf
end
section
namespace Rf
open PySem PySem.Spec PyProof.Rows L2
section
variable {P : Program} {w : World} {A : Around}
end
section
variable {X : Cx} {pins : List (Addr × Obj)} {σ : L2.St} {H : Hp}
theorem RdV.at {K : Frg} {kvs : List (Key × V)} {xs : List PyData} (h : RdV K H kvs xs) : ∀ {i : Nat} {k : Key} {v : V}, kvs[i]? = some (k, v) → ∃ y, xs[i]? = some y ∧ Dp K H v y ∧ SeqAt.shaped y = true ∧ y.depth ≤ 50 := by
  unfold RdV at h
  induction h with
  | nil => intro i k v e; cases e
  | cons r _ ih =>
    intro i k v e
    cases i with
    | zero => cases e; exact ⟨_, rfl, r⟩
    | succ i => exact ih e
end
end Rf
end
section
namespace Rf
open PySem L2
theorem lamArg_ok {e b : Expr} {ps : Arguments} {s : Scope} (h : lamArg e = some (ps, b, s)) : ∃ p, e = .Lambda ps b s p := by
  unfold lamArg at h
  split at h
  · cases h; exact ⟨_, rfl⟩
  · cases h
section
variable {X : Cx} {W : WX} {ft : FT} {T : Tab} {c : Sc}
theorem FnK.blk {dfl : List D} {ad : Addr} {g : List D → Sto → R D} {s : Shared} {H : Hp} {scope : Scope} {env : PySem.Env} {fp : List Addr} (F : FnK X dfl ad g) : FnK (X.blk s H scope env fp) dfl ad g := ⟨F.ex, F.kp⟩
theorem Ok.blk (o : Ok X W ft T c) {scope : Scope} (hk : scope.kind = .function) : Blk X scope fun Y => Ok Y WF ft T (c.blk scope) := fun s H C cl fp =>
  ⟨o.N, o.nd, by show relS scope X.env.scope = relS scope c.sc; rw [o.sc], fun x => rfl, hk, o.calm, fun u s' h => by
      obtain ⟨a, B, sI, pins, σ, H, cls, d, e, I, nb, up, sky, na, os, ag, w⟩ := h
      exact w, PassesOwn.never, o.un, o.dfl, o.bts, o.cons, fun f h => let ⟨ad, g, h1, h2, h3⟩ := o.fns f h; ⟨ad, g, h1, h2.blk, h3⟩, fun f q h h0 => let ⟨ad, g, h1, h2, h3⟩ := o.als f q h h0; ⟨ad, g, h1, h2.blk, h3⟩, fun k q h => let ⟨ad, g, h1, h2, h3⟩ := o.mks k q h; ⟨ad, g, h1, h2.blk, h3⟩,
      fun k m q h => let ⟨ad, g, h1, h2, h3⟩ := o.mths k m q h; ⟨ad, g, h1, h2.blk, h3⟩, o.lst, o.clss, o.fls, o.isi, fun k h => let ⟨g, n, fi, fl, fdI, fdL, psI, psL, h1, F⟩ := o.itc k h; ⟨g, n, fi, fl, fdI, fdL, psI, psL, h1, ⟨F.it, F.itF, F.ln, F.lnF, F.FI, F.bI, F.FL, F.bL, F.hr⟩⟩,
      o.xf, fun q fs h => let ⟨h1, h2⟩ := o.xcs q fs h; ⟨h1, h2⟩, o.xmt, (fun z => by cases z), fun f h => let ⟨ad, g, h1, h2, h3⟩ := o.gns f h; ⟨ad, g, h1, ⟨h2.ex, h2.kp, h2.is⟩, h3⟩, fun k m q h => let ⟨ad, g, h1, h2, h3⟩ := o.sts k m q h; ⟨ad, g, h1, h2.blk, h3⟩, o.x0s, o.xis⟩
theorem Ok.tr (o : Ok X W ft T c) {W' : WX} {pn : List (Addr × Obj)} {xe : Value → Shared → Prop} (tk : Takes (X.tr pn xe) W') (ow : PassesOwn (model X.prog X.w) X.A X.env xe) : Ok (X.tr pn xe) W' ft T c.noLam :=
  ⟨o.N, o.nd, o.sc, o.fn, o.kind, o.calm, tk, ow, o.un, o.dfl, o.bts, o.cons, fun f h => let ⟨ad, g, h1, h2, h3⟩ := o.fns f h; ⟨ad, g, h1, ⟨h2.ex, h2.kp⟩, h3⟩, fun f q h h0 => let ⟨ad, g, h1, h2, h3⟩ := o.als f q h h0; ⟨ad, g, h1, ⟨h2.ex, h2.kp⟩, h3⟩, fun k q h => let ⟨ad, g, h1, h2, h3⟩ := o.mks k q h; ⟨ad, g, h1, ⟨h2.ex, h2.kp⟩, h3⟩,
      fun k m q h => let ⟨ad, g, h1, h2, h3⟩ := o.mths k m q h; ⟨ad, g, h1, ⟨h2.ex, h2.kp⟩, h3⟩, o.lst, o.clss, o.fls, o.isi, fun k h => let ⟨g, n, fi, fl, fdI, fdL, psI, psL, h1, F⟩ := o.itc k h; ⟨g, n, fi, fl, fdI, fdL, psI, psL, h1, ⟨F.it, F.itF, F.ln, F.lnF, F.FI, F.bI, F.FL, F.bL, F.hr⟩⟩,
      o.xf, fun q fs h => let ⟨h1, h2⟩ := o.xcs q fs h; ⟨h1, h2⟩, o.xmt, (fun z => by cases z), fun f h => let ⟨ad, g, h1, h2, h3⟩ := o.gns f h; ⟨ad, g, h1, ⟨h2.ex, h2.kp, h2.is⟩, h3⟩, fun k m q h => let ⟨ad, g, h1, h2, h3⟩ := o.sts k m q h; ⟨ad, g, h1, ⟨h2.ex, h2.kp⟩, h3⟩, o.x0s, o.xis⟩
theorem Ok.kd (o : Ok X W ft T c) {x : Str} {k : NameKind} (h : c.kd x = some k) : X.env.scope.names.lookup x = some k := by rw [o.sc]; exact h
theorem Ok.gl (o : Ok X W ft T c) {x : Str} (h : c.gl x = true) : Gl X x := o.kd (of_decide_eq_true h)
theorem Ok.vis (o : Ok X W ft T c) {x : Str} (h : c.vis x = true) : Vis X.env.scope x := by
  unfold Sc.vis at h
  simp only [Bool.or_eq_true, decide_eq_true_eq] at h
  rcases h with (h | h) | h
  · exact .inl (o.kd h)
  · exact .inr (.inl (o.kd h))
  · exact .inr (.inr (o.kd h))
theorem Ok.tgn (o : Ok X W ft T c) {i : Nat} {x : Str} (h : c.tgn i x = true) : TgN X i x := by
  unfold Sc.tgn Sc.loc at h
  simp only [Bool.or_eq_true, Bool.and_eq_true, decide_eq_true_eq] at h
  obtain ⟨⟨h1, h2⟩, h3⟩ := h
  refine ⟨by rw [o.N]; exact h1, ?_, ?_⟩
  · rcases h2 with h | h
    · exact .inl (o.kd h)
    · exact .inr (o.kd h)
  · rcases h3 with h | h
    · exact .inl (by rw [o.fn]; exact h)
    · exact .inr (o.kd h)
theorem Ok.chN (o : Ok X W ft T c) : ∀ {is : List Nat} {es : List Expr}, chN c is es = true → Paired (fun i e => ∃ x q, e = Expr.Name x q ∧ TgN X i x) is es
  | [], [], _ => .nil
  | i :: is, .Name x q :: es, h => by
    have h : (c.tgn i x && Rf.chN c is es) = true := h
    rw [Bool.and_eq_true] at h
    exact .cons ⟨x, q, rfl, o.tgn h.1⟩ (Ok.chN o h.2)
  | [], _ :: _, h => by cases h
  | i :: is, [], h => by cases h
  | i :: is, e :: es, h => by
    cases e <;> first
      | (have h : (c.tgn i _ && Rf.chN c is es) = true := h
         rw [Bool.and_eq_true] at h
         exact .cons ⟨_, _, rfl, o.tgn h.1⟩ (Ok.chN o h.2))
      | cases h
theorem Ok.tg (o : Ok X W ft T c) {t : Tg} {e : Expr} (h : chTg c t e = true) : TgOk X t e := by
  cases t with
  | nm i => cases e <;> first | exact .nm (o.tgn h) | cases h
  | tp is => cases e <;> first | exact .tp (o.chN h) | cases h
theorem Ok.ty (o : Ok X W ft T c) {t : Ty} {x : Str} (h : chTy T c t x = true) : tyN t = x ∧ TyName X t := by
  unfold chTy at h
  simp only [Bool.and_eq_true, decide_eq_true_eq] at h
  obtain ⟨⟨h1, h2⟩, h3⟩ := h
  subst h1
  refine ⟨rfl, o.gl h2, ?_⟩
  cases t with
  | own k =>
    simp only [Bool.and_eq_true] at h3
    exact ⟨o.clss k h3.1, by simpa [nodbg] using h3.2⟩
  | _ => exact o.bts _ h3
theorem Ok.tys (o : Ok X W ft T c) : ∀ {ts : List Ty} {es : List Expr}, chTys T c ts es = true → Paired (fun t e => TyName X t ∧ ∃ p, e = Expr.Name (tyN t) p) ts es
  | [], [], _ => .nil
  | [], _ :: _, h => by cases h
  | t :: ts, [], h => by cases h
  | t :: ts, e :: es, h => by
    cases e <;> first
      | (have h : (chTy T c t _ && chTys T c ts es) = true := h
         rw [Bool.and_eq_true] at h
         obtain ⟨e1, h1⟩ := o.ty h.1
         exact .cons ⟨h1, _, by rw [e1]⟩ (Ok.tys o h.2))
      | cases h
theorem nodbg_ok {x : Str} (h : nodbg x = true) : (x == ("__debug__" : Str)) = false := by simpa [nodbg] using h
theorem own_map (c : Sc) (is : List Nat) : (c.own is).map (·.2) = is := by
  unfold Sc.own
  rw [List.map_map]
  show is.map (fun i => i) = is
  exact List.map_id' is
theorem subB_ok {is js : List Nat} (h : subB is js = true) : ∀ i ∈ is, i ∈ js := fun i hi => by
  have := List.all_eq_true.mp h i hi
  simpa using this
theorem noSet_ok {e : Expr} (h : noSet e = true) (env : PySem.Env) (x : Value) : foldedSetIterable e env x = pure x := by
  cases e <;> first | rfl | cases h
theorem okIx_ok {e : Expr} (h : okIx e = true) : PlainIx e := by
  intro o i
  cases e <;> first | rfl | cases h
theorem dot_ok {o : Expr} {apos pos : Pos} {es : List Expr} (h : dotB o apos pos es = true) : Dot o apos pos es := by
  unfold dotB at h
  simp only [Bool.and_eq_true, decide_eq_true_eq] at h
  exact ⟨h.1.1.1, h.1.1.2, h.1.2, h.2⟩
theorem chL_nil {es : EL} {xs : List Expr} (h : chL T c es xs = true) (e : xs = []) : es = .nil := by
  subst e
  cases es with
  | nil => rfl
  | cons a r => cases h
end
end Rf
end
section
namespace Rf
open PySem L2
theorem valE_ok {e : Expr} {env : PySem.Env} (h : valE e = true) : ∀ whole, isTrue e env whole = (do let v ← whole; standAt e.pos; holding [v] (truthy v)) := by
  intro whole
  cases e with
  | UnaryOp o x p =>
    cases o with
    | Not => cases h
    | _ => rfl
  | BoolOp _ _ _ => cases h
  | IfExp _ _ _ _ => cases h
  | Compare _ _ _ _ => cases h
  | _ => rfl
section
variable {X : Cx} {W : WX} {ft : FT} {T : Tab} {c : Sc}
theorem Gd.val {t : Bool} {e : E} {x : Expr} (h : PE X x (TEv X.K W ft e)) (hv : valE x = true) : Gd X W ft t e x := by
  cases t with
  | false => exact h
  | true => exact t_val h (valE_ok hv)
theorem Gd.e {e : E} {x : Expr} (h : Gd X W ft false e x) : PE X x (TEv X.K W ft e) := h
theorem Gd.t {e : E} {x : Expr} (h : Gd X W ft true e x) : PT X x (TTv X.K W ft e) := h
theorem Gd.two {t : Bool} {e : E} {x : Expr} (h : PE X x (TEv X.K W ft e)) (h2 : PT X x (TTv X.K W ft e)) : Gd X W ft t e x := by
  cases t with
  | false => exact h
  | true => exact h2
theorem PT.ofW {x : Expr} {t : TT} (h : PW X x t) : PT X x t := ⟨fun pins s σ H Q I q => h.run _ pins s σ H Q I q⟩
theorem Ok.un1 (o : Ok X W ft T c) : X.A.units + 1 < cLine := by have := o.un; omega
theorem kind_of {N : List Str} {sc scope : Scope} {own : List (Str × Nat)} (h : blkC N sc scope own = true) : scope.kind = .function := (blkOk_by h).kind
theorem pair_and {a b : Bool} (h : (a && b) = true) : a = true ∧ b = true := by simpa using h
end
theorem noF {P : Prop} (h : false = true) : P := absurd h Bool.false_ne_true
mutual
theorem sE {ft : FT} {T : Tab} : ∀ (e : E) {X : Cx} {W : WX} {c : Sc} (o : Ok X W ft T c) (t : Bool) (x : Expr), chE T c t e x = true → Gd X W ft t e x
  | .nope, X, W, c, o, t, x, h => by
    have h : (!t) = true := h
    cases t with
    | false => exact nope_e
    | true => cases h
  | .var i, X, W, c, o, t, x, h => by
    cases x with
    | Name x p =>
      have h : (decide (c.N[i]? = some x) && c.vis x && nodbg x && !(x == ("__classdict__" : Str))) = true := h
      simp only [Bool.and_eq_true, decide_eq_true_eq] at h
      obtain ⟨⟨⟨h1, h2⟩, h3⟩, h4⟩ := h
      exact .val (s_var (by rw [o.N]; exact h1) (o.vis h2) (nodbg_ok h3) (by simpa using h4)) rfl
    | _ => exact noF h
  | .glo y, X, W, c, o, t, x, h => by
    cases x with
    | Name x p =>
      have h : (decide (y = x) && T.cons.contains y && c.gl y && nodbg y) = true := h
      simp only [Bool.and_eq_true, decide_eq_true_eq] at h
      obtain ⟨⟨⟨h1, h2⟩, h3⟩, h4⟩ := h
      subst h1
      obtain ⟨d, v, u, g1, g2, g3, g4⟩ := o.cons y h2
      exact .val (s_glo (o.gl h3) g1 g2 (nodbg_ok h4) g3 g4) rfl
    | _ => exact noF h
  | .non, X, W, c, o, t, x, h => by
    cases x with
    | Constant k n p =>
      cases k with
      | none => exact .val s_non rfl
      | _ => exact noF h
    | _ => exact noF h
  | .bl b, X, W, c, o, t, x, h => by
    cases x with
    | Constant k n p =>
      cases k with
      | bool b' =>
        have h : (b == b') = true := h
        have e : b = b' := by simpa using h
        subst e
        exact .val s_bl rfl
      | _ => exact noF h
    | _ => exact noF h
  | .int b, X, W, c, o, t, x, h => by
    cases x with
    | Constant k n p =>
      cases k with
      | int b' =>
        have e : b = b' := of_decide_eq_true h
        subst e
        exact .val s_int rfl
      | _ => exact noF h
    | _ => exact noF h
  | .str b, X, W, c, o, t, x, h => by
    cases x with
    | Constant k n p =>
      cases k with
      | str b' =>
        have e : b = b' := of_decide_eq_true h
        subst e
        exact .val s_str rfl
      | _ => exact noF h
    | _ => exact noF h
  | .tup es, X, W, c, o, t, x, h => by
    cases x with
    | Tuple xs n p => exact .val (s_tup (sL es o xs h)) rfl
    | _ => exact noF h
  | .lst es, X, W, c, o, t, x, h => by
    cases x with
    | List xs p => exact .val (s_lst (sL es o xs h)) rfl
    | _ => exact noF h
  | .newl es, X, W, c, o, t, x, h => by
    cases x with
    | List xs p => exact .val (s_newl (sL es o xs h)) rfl
    | _ => exact noF h
  | .newk, X, W, c, o, t, x, h => by
    cases x with
    | Dict ks vs p =>
      cases ks with
      | nil => cases vs with
        | nil => exact .val s_newk rfl
        | cons _ _ => exact noF h
      | cons _ _ => exact noF h
    | _ => exact noF h
  | .newt, X, W, c, o, t, x, h => noF h
  | .op2 op a b, X, W, c, o, t, x, h => by
    cases x with
    | BinOp l op' r p =>
      have h : (decide (op = op') && chE T c false a l && chE T c false b r) = true := h
      simp only [Bool.and_eq_true, decide_eq_true_eq] at h
      obtain ⟨⟨h1, h2⟩, h3⟩ := h
      subst h1
      exact .val (s_op2 (sE a o false l h2).e (sE b o false r h3).e) rfl
    | _ => exact noF h
  | .neg a, X, W, c, o, t, x, h => by
    cases x with
    | UnaryOp op y p =>
      have h : (decide (op = .USub) && chE T c false a y) = true := h
      simp only [Bool.and_eq_true, decide_eq_true_eq] at h
      obtain ⟨h1, h2⟩ := h
      subst h1
      exact .val (s_neg (sE a o false y h2).e) rfl
    | _ => exact noF h
  | .not a, X, W, c, o, t, x, h => by
    cases x with
    | UnaryOp op y p =>
      have h : (decide (op = .Not) && chE T c t a y) = true := h
      simp only [Bool.and_eq_true, decide_eq_true_eq] at h
      obtain ⟨h1, h2⟩ := h
      subst h1
      have q := sE a o t y h2
      cases t with
      | false => exact s_not q.e
      | true => exact t_not q.t
    | _ => exact noF h
  | .and es, X, W, c, o, t, x, h => by
    cases x with
    | BoolOp op xs p =>
      have h : (decide (op = .And) && chB T c t es xs) = true := h
      simp only [Bool.and_eq_true, decide_eq_true_eq] at h
      obtain ⟨h1, h2⟩ := h
      subst h1
      have q := sB es o t xs h2 p
      cases t with
      | false => exact q.1
      | true => exact PT.ofW q.1
    | _ => exact noF h
  | .or es, X, W, c, o, t, x, h => by
    cases x with
    | BoolOp op xs p =>
      have h : (decide (op = .Or) && chB T c t es xs) = true := h
      simp only [Bool.and_eq_true, decide_eq_true_eq] at h
      obtain ⟨h1, h2⟩ := h
      subst h1
      have q := sB es o t xs h2 p
      cases t with
      | false => exact q.2
      | true => exact PT.ofW q.2
    | _ => exact noF h
  | .ite q a b, X, W, c, o, t, x, h => by
    cases x with
    | IfExp x y z p =>
      have h : (!t && chE T c true q x && chE T c false a y && chE T c false b z) = true := h
      simp only [Bool.and_eq_true] at h
      obtain ⟨⟨⟨h1, h2⟩, h3⟩, h4⟩ := h
      cases t with
      | true => cases h1
      | false => exact s_ite (sE q o true x h2).t (sE a o false y h3).e (sE b o false z h4).e
    | _ => exact noF h
  | .cmp op a b, X, W, c, o, t, x, h => by
    cases x with
    | Compare l ops rs p =>
      match ops, rs, h with
      | [op'], [r], h =>
        have h : (decide (op = op') && chE T c false a l && chE T c false b r && !behindInMarks op r) = true := h
        simp only [Bool.and_eq_true, decide_eq_true_eq] at h
        obtain ⟨⟨⟨h1, h2⟩, h3⟩, h4⟩ := h
        subst h1
        have h4 : behindInMarks op r = false := by simpa using h4
        exact .two (s_cmp o.un (sE a o false l h2).e (sE b o false r h3).e h4) (t_cmp o.un (sE a o false l h2).e (sE b o false r h3).e h4)
      | [], rs, h => exact noF h
      | [_], [], h => exact noF h
      | [_], _ :: _ :: _, h => exact noF h
      | _ :: _ :: _, rs, h => exact noF h
    | _ => exact noF h
  | .isb neg a b, X, W, c, o, t, x, h => noF h
  | .isn a, X, W, c, o, t, x, h => by
    cases x with
    | Compare l ops rs p =>
      match ops, rs, h with
      | [op'], [.Constant .none n q], h =>
        have h : (decide (op' = .Is) && chE T c false a l) = true := h
        simp only [Bool.and_eq_true, decide_eq_true_eq] at h
        obtain ⟨h1, h2⟩ := h
        subst h1
        exact .two (s_isn (sE a o false l h2).e) (t_isn (sE a o false l h2).e)
      | [], rs, h => exact noF h
      | [_], [], h => exact noF h
      | [_], r :: _ :: _, h => cases r <;> first | exact noF h | (rename_i k _ _; cases k <;> exact noF h)
      | _ :: _ :: _, rs, h => exact noF h
      | [op'], [r], h => cases r <;> first | exact noF h | (rename_i k _ _; cases k <;> first | exact noF h | (
          have h : (decide (op' = .Is) && chE T c false a l) = true := h
          simp only [Bool.and_eq_true, decide_eq_true_eq] at h
          obtain ⟨h1, h2⟩ := h
          subst h1
          exact .two (s_isn (sE a o false l h2).e) (t_isn (sE a o false l h2).e)))
    | _ => exact noF h
  | .notn a, X, W, c, o, t, x, h => by
    cases x with
    | Compare l ops rs p =>
      match ops, rs, h with
      | [op'], [.Constant .none n q], h =>
        have h : (decide (op' = .IsNot) && chE T c false a l) = true := h
        simp only [Bool.and_eq_true, decide_eq_true_eq] at h
        obtain ⟨h1, h2⟩ := h
        subst h1
        exact .two (s_notn (sE a o false l h2).e) (t_notn (sE a o false l h2).e)
      | [], rs, h => exact noF h
      | [_], [], h => exact noF h
      | [_], r :: _ :: _, h => cases r <;> first | exact noF h | (rename_i k _ _; cases k <;> exact noF h)
      | _ :: _ :: _, rs, h => exact noF h
      | [op'], [r], h => cases r <;> first | exact noF h | (rename_i k _ _; cases k <;> first | exact noF h | (
          have h : (decide (op' = .IsNot) && chE T c false a l) = true := h
          simp only [Bool.and_eq_true, decide_eq_true_eq] at h
          obtain ⟨h1, h2⟩ := h
          subst h1
          exact .two (s_notn (sE a o false l h2).e) (t_notn (sE a o false l h2).e)))
    | _ => exact noF h
  | .chn op q a b d, X, W, c, o, t, x, h => noF h
  | .idx a b, X, W, c, o, t, x, h => by
    cases x with
    | Subscript l r p =>
      have h : (okIx r && chE T c false a l && chE T c false b r) = true := h
      simp only [Bool.and_eq_true] at h
      obtain ⟨⟨h1, h2⟩, h3⟩ := h
      exact .val (s_idx o.un1 (sE a o false l h2).e (sE b o false r h3).e (okIx_ok h1)) rfl
    | _ => exact noF h
  | .slc a lo hi, X, W, c, o, t, x, h => noF h
  | .fld a f, X, W, c, o, t, x, h => by
    cases x with
    | Attribute l g p =>
      have h : (decide (f = g) && noSup l && T.fls.contains f && chE T c false a l) = true := h
      simp only [Bool.and_eq_true, decide_eq_true_eq] at h
      obtain ⟨⟨⟨h1, h2⟩, h3⟩, h4⟩ := h
      subst h1
      exact .val (s_fld (sE a o false l h4).e (base_ok h2) (o.fls f h3)) rfl
    | _ => exact noF h
  | .lgen f es, X, W, c, o, t, x, h => noF h
  | .call f es j, X, W, c, o, t, x, h => by
    cases x with
    | Call fn xs kws p =>
      cases fn with
      | Name g q =>
        cases kws with
        | nil =>
          have h : (decide (f = g) && T.fns.contains f && decide (j ≤ (T.dfl f).length) && c.gl f && nodbg f && xs.all plainE && chL T c es xs) = true := h
          simp only [Bool.and_eq_true, decide_eq_true_eq] at h
          obtain ⟨⟨⟨⟨⟨⟨h1, h2⟩, h3⟩, h4⟩, h5⟩, h6⟩, h7⟩ := h
          subst h1
          obtain ⟨ad, gg, g1, g2, g3⟩ := o.fns f h2
          have h3 : j ≤ (ft.dfl f).length := by rw [o.dfl]; exact h3
          have ha := sL es o xs h7
          cases xs with
          | nil =>
            have e := chL_nil h7 rfl
            subst e
            exact .val (s_call0 o.tk g1 g2 h3 (o.gl h4) g3 (nodbg_ok h5)) rfl
          | cons y ys =>
            rw [List.all_cons, Bool.and_eq_true] at h6
            exact .val (s_call o.tk g1 g2 h3 (o.gl h4) g3 (nodbg_ok h5) ha (star_cons h6.1) (back_any h6.2)) rfl
        | cons _ _ => exact noF h
      | Attribute ob m apos =>
        cases ob with
        | Name k kp =>
          cases kws with
          | nil =>
            have h : (T.sts.contains (k, m, f) && decide (j ≤ (T.dfl f).length) && c.gl k && nodbg k && dotB (.Name k kp) apos p xs && !xs.isEmpty && chL T c es xs) = true := h
            simp only [Bool.and_eq_true, decide_eq_true_eq] at h
            obtain ⟨⟨⟨⟨⟨⟨h2, h3⟩, h4⟩, h5⟩, h6⟩, h8⟩, h7⟩ := h
            obtain ⟨ad, gg, g1, g2, g3, g4⟩ := o.sts k m f h2
            have h3 : j ≤ (ft.dfl f).length := by rw [o.dfl]; exact h3
            have ha := sL es o xs h7
            cases xs with
            | nil => cases h8
            | cons y ys => exact .val (s_static o.tk g1 g2 h3 g3 (o.gl h4) g4 (nodbg_ok h5) ha (dot_ok h6)) rfl
          | cons _ _ => exact noF h
        | _ => exact noF h
      | _ => exact noF h
    | _ => exact noF h
  | .mk k q es j, X, W, c, o, t, x, h => by
    cases x with
    | Call fn xs kws p =>
      cases fn with
      | Name g q' =>
        cases kws with
        | nil =>
          have h : (decide (k = g) && T.mks.contains (k, q) && decide (j ≤ (T.dfl q).length) && c.gl k && nodbg k && xs.all plainE && chL T c es xs) = true := h
          simp only [Bool.and_eq_true, decide_eq_true_eq] at h
          obtain ⟨⟨⟨⟨⟨⟨h1, h2⟩, h3⟩, h4⟩, h5⟩, h6⟩, h7⟩ := h
          subst h1
          obtain ⟨ad, gg, g1, g2, g3, g4⟩ := o.mks k q h2
          have h3 : j ≤ (ft.dfl q).length := by rw [o.dfl]; exact h3
          exact .val (s_mk o.tk g1 g2 h3 g3 (o.gl h4) g4 (nodbg_ok h5) (sL es o xs h7) h6 (chL_nil h7)) rfl
        | cons _ _ => exact noF h
      | _ => exact noF h
    | _ => exact noF h
  | .mcall a k m q es j, X, W, c, o, t, x, h => by
    cases x with
    | Call fn xs kws p =>
      cases fn with
      | Attribute ob g apos =>
        cases kws with
        | nil =>
          have h : (decide (m = g) && T.mths.contains (k, m, q) && decide (j ≤ (T.dfl q).length) && dotB ob apos p xs && chE T c false a ob && chL T c es xs) = true := h
          simp only [Bool.and_eq_true, decide_eq_true_eq] at h
          obtain ⟨⟨⟨⟨⟨h1, h2⟩, h3⟩, h4⟩, h5⟩, h6⟩ := h
          subst h1
          obtain ⟨ad, gg, g1, g2, g3, g4, _⟩ := o.mths k m q h2
          have h3 : j ≤ (ft.dfl q).length := by rw [o.dfl]; exact h3
          exact .val (s_mcall o.tk g1 g2 h3 g3 g4 (sE a o false ob h5).e (sL es o xs h6) (dot_ok h4) (chL_nil h6)) rfl
        | cons _ _ => exact noF h
      | _ => exact noF h
    | _ => exact noF h
  | .bi f es, X, W, c, o, t, x, h => by
    cases x with
    | Call fn xs kws p =>
      cases fn with
      | Name g q =>
        cases xs with
        | nil => exact noF h
        | cons y ys =>
          cases kws with
          | nil =>
            have h : (decide (f.name = g) && f.okA && bi1 T c f.name && (y :: ys).all plainE && chL T c es (y :: ys)) = true := h
            simp only [Bool.and_eq_true, decide_eq_true_eq] at h
            obtain ⟨⟨⟨⟨h1, h2⟩, h3⟩, h4⟩, h5⟩ := h
            subst h1
            have h3 := pair_and h3
            have h4 : plainE y = true ∧ ys.all plainE = true := by simpa using h4
            exact .val (s_biA f h2 o.un o.calm (o.gl h3.1) (o.bts _ h3.2) (sL es o (y :: ys) h5) (star_cons h4.1) (back_any h4.2)) rfl
          | cons _ _ => exact noF h
      | _ => exact noF h
    | _ => exact noF h
  | .meth a m es, X, W, c, o, t, x, h => by
    cases x with
    | Call fn xs kws p =>
      cases fn with
      | Attribute ob g apos =>
        cases kws with
        | nil =>
          have h : (decide (m.name = g) && dotB ob apos p xs && chE T c false a ob && chL T c es xs) = true := h
          simp only [Bool.and_eq_true, decide_eq_true_eq] at h
          obtain ⟨⟨⟨h1, h2⟩, h3⟩, h4⟩ := h
          subst h1
          exact .val (s_meth m o.un1 (sE a o false ob h3).e (sL es o xs h4) (dot_ok h2) (chL_nil h4)) rfl
        | cons _ _ => exact noF h
      | _ => exact noF h
    | _ => exact noF h
  | .isi a ts, X, W, c, o, t, x, h => by
    cases x with
    | Call fn xs kws p =>
      cases fn with
      | Name g q =>
        match xs, kws, h with
        | [y, z], [], h =>
          have h : (decide (g = "isinstance") && bi1 T c "isinstance" && plainE y && chE T c false a y && chIsi T c ts z) = true := h
          simp only [Bool.and_eq_true, decide_eq_true_eq] at h
          obtain ⟨⟨⟨⟨h1, h2⟩, h3⟩, h4⟩, h5⟩ := h
          subst h1
          have h2 := pair_and h2
          have ha := (sE a o false y h4).e
          cases z with
          | Name n q2 =>
            match ts, h5 with
            | [ty], (h5 : chTy T c ty n = true) =>
              obtain ⟨e1, h6⟩ := o.ty h5
              subst e1
              exact .val (s_isi1 o.isi (o.gl h2.1) (o.bts _ h2.2) h6 ha h3) rfl
            | [], h5 => exact noF h5
            | _ :: _ :: _, h5 => exact noF h5
          | Tuple es n q2 =>
            have h5 : (chTys T c ts es && decide (ts.length ≤ 1000)) = true := h5
            simp only [Bool.and_eq_true, decide_eq_true_eq] at h5
            exact .val (s_isiN o.isi (o.gl h2.1) (o.bts _ h2.2) (o.tys h5.1) h5.2 ha h3) rfl
          | _ => exact noF h5
        | [], kws, h => exact noF h
        | [_], kws, h => exact noF h
        | [_, _], _ :: _, h => exact noF h
        | _ :: _ :: _ :: _, kws, h => exact noF h
      | _ => exact noF h
    | _ => exact noF h
  | .sset a, X, W, c, o, t, x, h => noF h
  | .newb a, X, W, c, o, t, x, h => by
    cases x with
    | Call fn xs kws p =>
      cases fn with
      | Name g q =>
        match xs, kws, h with
        | [y], [], h =>
          have h : (decide (g = "list") && bi1 T c "list" && plainE y && chE T c false a y) = true := h
          simp only [Bool.and_eq_true, decide_eq_true_eq] at h
          obtain ⟨⟨⟨h1, h2⟩, h3⟩, h4⟩ := h
          subst h1
          have h2 := pair_and h2
          exact .val (s_newb o.calm (o.gl h2.1) (o.bts _ h2.2) (sE a o false y h4).e h3) rfl
        | [], kws, h => exact noF h
        | [_], _ :: _, h => exact noF h
        | _ :: _ :: _, kws, h => exact noF h
      | _ => exact noF h
    | _ => exact noF h
  | .newd a, X, W, c, o, t, x, h => noF h
  | .lzip a b, X, W, c, o, t, x, h => noF h
  | .lins a k, X, W, c, o, t, x, h => noF h
  | .lenI a k, X, W, c, o, t, x, h => noF h
  | .lc own tg s q e, X, W, c, o, t, x, h => by
    cases x with
    | ListComp elt gs scope p =>
      match gs, h with
      | [⟨tx, it, ifs, as⟩], h =>
        have h : (decide (as = 0) && blkC c.N c.sc scope (c.own own) && subB tg.all own && noSet it && chI T c s tx it && chTg (c.blk scope) tg tx && chC T (c.blk scope) q ifs && chE T (c.blk scope) false e elt) = true := h
        simp only [Bool.and_eq_true, decide_eq_true_eq] at h
        obtain ⟨⟨⟨⟨⟨⟨⟨h1, h2⟩, h3⟩, h4⟩, h5⟩, h6⟩, h7⟩, h8⟩ := h
        subst h1
        have ob := o.blk (kind_of h2)
        have bo : BlkOk X.N X.env.scope scope (c.own own) := by rw [o.N, o.sc]; exact blkOk_by h2
        have ho : ∀ i ∈ tg.all, i ∈ (c.own own).map (·.2) := by rw [own_map]; exact subB_ok h3
        have := s_lc (W := W) (pos := p) o.calm o.nd (sI s o tx it h5) bo ho (fun a b C d f => s_tg (ob a b C d f).calm (ob a b C d f).nd ((ob a b C d f).tg h6)) (fun a b C d f => sC q (ob a b C d f) ifs h7) (fun a b C d f => (sE e (ob a b C d f) false elt h8).e) (noSet_ok h4 _)
        rw [own_map] at this
        exact .val this rfl
      | [], h => exact noF h
      | ⟨_, _, _, _⟩ :: _ :: _, h => exact noF h
    | _ => exact noF h
  | .newc own tg s q e, X, W, c, o, t, x, h => by
    cases x with
    | ListComp elt gs scope p =>
      match gs, h with
      | [⟨tx, it, ifs, as⟩], h =>
        have h : (decide (as = 0) && blkC c.N c.sc scope (c.own own) && subB tg.all own && noSet it && chI T c s tx it && chTg (c.blk scope) tg tx && chC T (c.blk scope) q ifs && chE T (c.blk scope) false e elt) = true := h
        simp only [Bool.and_eq_true, decide_eq_true_eq] at h
        obtain ⟨⟨⟨⟨⟨⟨⟨h1, h2⟩, h3⟩, h4⟩, h5⟩, h6⟩, h7⟩, h8⟩ := h
        subst h1
        have ob := o.blk (kind_of h2)
        have bo : BlkOk X.N X.env.scope scope (c.own own) := by rw [o.N, o.sc]; exact blkOk_by h2
        have ho : ∀ i ∈ tg.all, i ∈ (c.own own).map (·.2) := by rw [own_map]; exact subB_ok h3
        have := s_newc (W := W) (pos := p) o.calm o.nd (sI s o tx it h5) bo ho (fun a b C d f => s_tg (ob a b C d f).calm (ob a b C d f).nd ((ob a b C d f).tg h6)) (fun a b C d f => sC q (ob a b C d f) ifs h7) (fun a b C d f => (sE e (ob a b C d f) false elt h8).e) (noSet_ok h4 _)
        rw [own_map] at this
        exact .val this rfl
      | [], h => exact noF h
      | ⟨_, _, _, _⟩ :: _ :: _, h => exact noF h
    | _ => exact noF h
  | .lc2 own own1 tg s tg1 s1 q e, X, W, c, o, t, x, h => noF h
  | .newc2 own own1 tg s tg1 s1 q e, X, W, c, o, t, x, h => noF h
  | .dc own tg s q k v, X, W, c, o, t, x, h => noF h
  | .dct own tg s q k v, X, W, c, o, t, x, h => noF h
  | .frz a, X, W, c, o, t, x, h => by
    have h : (!t && chE T c false a x) = true := h
    have h := pair_and h
    cases t with
    | true => exact noF h.1
    | false => exact s_frz (sE a o false x h.2).e
  | .lend is e, X, W, c, o, t, x, h => noF h
  | .opI op a k m q b, X, W, c, o, t, x, h => noF h
  | .idxI a k q b, X, W, c, o, t, x, h => noF h
  | .dupd a k v, X, W, c, o, t, x, h => noF h
  | .dmrg a b, X, W, c, o, t, x, h => noF h
  | .inI neg a b k q, X, W, c, o, t, x, h => noF h
  | .emp neg a, X, W, c, o, t, x, h => by
    cases x with
    | Compare l ops rs p =>
      match ops, rs, h with
      | [op'], [r], h =>
        have h : (!neg && decide (op' = .Eq) && chE T c false a l && nilE r && !behindInMarks .Eq r) = true := h
        simp only [Bool.and_eq_true, decide_eq_true_eq] at h
        obtain ⟨⟨⟨⟨h0, h1⟩, h3⟩, h4⟩, h5⟩ := h
        have h0 : neg = false := by simpa using h0
        subst h1
        subst h0
        have h5 : behindInMarks .Eq r = false := by simpa using h5
        cases r with
        | List es p2 =>
          cases es with
          | nil =>
            have hb : PE X (.List [] p2) (TEv X.K W ft (.lst .nil)) := s_lst s_nil
            exact .two (s_emp o.un (sE a o false l h3).e hb h5) (t_emp o.un (sE a o false l h3).e hb h5)
          | cons _ _ => cases h4
        | _ => cases h4
      | [], rs, h => exact noF h
      | [_], [], h => exact noF h
      | [_], _ :: _ :: _, h => exact noF h
      | _ :: _ :: _, rs, h => exact noF h
    | _ => exact noF h
  | .popk a k, X, W, c, o, t, x, h => noF h
  | .callq f fq es j, X, W, c, o, t, x, h => noF h
  | .lcall f es j, X, W, c, o, t, x, h => noF h
  | .mko k q es j, X, W, c, o, t, x, h => noF h
  | .newdsp es, X, W, c, o, t, x, h => noF h
  | .newdc own tg s q k v, X, W, c, o, t, x, h => noF h
  | .eqI neg a b k q, X, W, c, o, t, x, h => noF h
  | .dsp es, X, W, c, o, t, x, h => by
    cases x with
    | Dict ks vs p =>
      have h : (chD T c es ks vs && !ks.isEmpty && decide (ks.length ≤ 15)) = true := h
      simp only [Bool.and_eq_true, decide_eq_true_eq] at h
      obtain ⟨⟨h1, h2⟩, h3⟩ := h
      obtain ⟨q1, q2, q3⟩ := sD es o p ks vs h1
      exact .val (s_dsp q1 q2 q3 (by intro z; rw [z] at h2; cases h2) h3) rfl
    | _ => exact noF h
  | .dspt es, X, W, c, o, t, x, h => noF h
  | .lstS es a, X, W, c, o, t, x, h => noF h
  | .nonv a, X, W, c, o, t, x, h => noF h
  | .lvals a, X, W, c, o, t, x, h => noF h
  | .litems a, X, W, c, o, t, x, h => noF h
  | .lamc f e, X, W, c, o, t, x, h => by
    cases x with
    | Call fn xs kws p =>
      cases fn with
      | Name g q =>
        match xs, kws, h with
        | [y], [], h =>
          have h : (decide (f = g) && T.hds.contains f && c.lam && c.gl f && nodbg f && (match lamArg y with | some (ps, b, s) => lamB c ps s && chE T (lamSc c s) false e b | none => false)) = true := h
          simp only [Bool.and_eq_true, decide_eq_true_eq] at h
          obtain ⟨⟨⟨⟨⟨h1, h2⟩, h3⟩, h4⟩, h5⟩, h6⟩ := h
          subst h1
          cases el : lamArg y with
          | none => rw [el] at h6; cases h6
          | some z =>
            obtain ⟨ps, b, s⟩ := z
            rw [el] at h6
            simp only [Bool.and_eq_true] at h6
            obtain ⟨lp, rfl⟩ := lamArg_ok el
            exact .val (o.lamc h3 f h2 q lp p ps b s e h6.1 h4 h5 h6.2) rfl
        | [], kws, h => exact noF h
        | [_], _ :: _, h => exact noF h
        | _ :: _ :: _, kws, h => exact noF h
      | _ => exact noF h
    | _ => exact noF h
  | .lcl own tg a q e, X, W, c, o, t, x, h => noF h
  | .lcd own tg a q e, X, W, c, o, t, x, h => noF h
  | .exn k es, X, W, c, o, t, x, h => by
    cases x with
    | Call fn xs kws p =>
      cases fn with
      | Name g q =>
        cases kws with
        | cons _ _ => exact noF h
        | nil =>
          have h : (decide (k = g) && (match T.xc.lookup k with | some fs => decide (fs.length = xs.length) | none => false) && c.gl k && nodbg k && xs.all plainE && chL T c es xs) = true := h
          simp only [Bool.and_eq_true, decide_eq_true_eq] at h
          obtain ⟨⟨⟨⟨⟨h1, h2⟩, h3⟩, h4⟩, h5⟩, h6⟩ := h
          subst h1
          cases el : T.xc.lookup k with
          | none => rw [el] at h2; cases h2
          | some fs =>
            rw [el] at h2
            obtain ⟨x1, x2, _⟩ := o.xcs k fs el
            exact .val (s_exn o.tk (by rw [o.xf]; exact el) x1 (o.gl h3) x2 (nodbg_ok h4) (sL es o xs h6) h5 (fun e => chL_nil h6 e) (of_decide_eq_true h2)) rfl
      | _ => exact noF h
    | _ => exact noF h
  | .exnk k f e, X, W, c, o, t, x, h => by
    cases x with
    | Call fn xs kws p =>
      cases fn with
      | Name g q =>
        match xs, kws, h with
        | [], [⟨some f', y, kp⟩], h =>
          have h : (decide (k = g) && decide (f = f') && decide (T.xc.lookup k = some [f]) && c.gl k && nodbg k && chE T c false e y) = true := h
          simp only [Bool.and_eq_true, decide_eq_true_eq] at h
          obtain ⟨⟨⟨⟨⟨h1, h2⟩, h3⟩, h4⟩, h5⟩, h6⟩ := h
          subst h1 h2
          obtain ⟨x1, x2, _⟩ := o.xcs k [f] h3
          exact .val (s_exnk o.tk (by rw [o.xf]; exact h3) x1 (o.gl h4) x2 (nodbg_ok h5) (sE e o false y h6).e) rfl
        | [], [⟨none, _, _⟩], h => exact noF h
        | [], [], h => exact noF h
        | [], ⟨none, _, _⟩ :: _ :: _, h => exact noF h
        | [], ⟨some _, _, _⟩ :: _ :: _, h => exact noF h
        | _ :: _, _, h => exact noF h
      | _ => exact noF h
    | _ => exact noF h
  | .exn0 k, X, W, c, o, t, x, h => by
    cases x with
    | Call fn xs kws p =>
      cases fn with
      | Name g q =>
        match xs, kws, h with
        | [], [], h =>
          have h : (decide (k = g) && T.x0.contains k && c.gl k && nodbg k) = true := h
          simp only [Bool.and_eq_true, decide_eq_true_eq] at h
          obtain ⟨⟨⟨h1, h2⟩, h3⟩, h4⟩ := h
          subst h1
          obtain ⟨x1, x2, ⟨bm, B, n, i, F, q0⟩, kp⟩ := o.x0s k (by simpa using h2)
          exact .val (s_exn0 F q0 x2 kp (o.gl h3) x1 (nodbg_ok h4)) rfl
        | [], _ :: _, h => exact noF h
        | _ :: _, _, h => exact noF h
      | _ => exact noF h
    | _ => exact noF h
  | .xfl a f, X, W, c, o, t, x, h => by
    cases x with
    | Attribute l g p =>
      have h : (decide (f = g) && noSup l && chE T c false a l) = true := h
      simp only [Bool.and_eq_true, decide_eq_true_eq] at h
      obtain ⟨⟨h1, h2⟩, h3⟩ := h
      subst h1
      exact .val (s_xfl (fun q gs e => (o.xcs q gs (by rw [o.xf] at e; exact e)).2.2) (sE a o false l h3).e (base_ok h2)) rfl
    | _ => exact noF h
  | .isx a q k, X, W, c, o, t, x, h => by
    cases x with
    | Call fn xs kws p =>
      cases fn with
      | Name g p1 =>
        match xs, kws, h with
        | [y, z], [], h =>
          cases z with
          | Name z p2 =>
            have h : (decide (g = "isinstance") && bi1 T c "isinstance" && T.xis.contains (q, k) && decide (z = xqN k q) && c.gl (xqN k q) && plainE y && chE T c false a y) = true := h
            simp only [Bool.and_eq_true, decide_eq_true_eq] at h
            obtain ⟨⟨⟨⟨⟨⟨h1, h2⟩, h3⟩, h4⟩, h5⟩, h6⟩, h7⟩ := h
            subst h1 h4
            have h2 := pair_and h2
            exact .val (s_isx (o.xis q k (by simpa using h3)) (o.gl h5) (o.gl h2.1) (o.bts _ h2.2) (sE a o false y h7).e h6) rfl
          | _ => exact noF h
        | [], kws, h => exact noF h
        | [_], kws, h => exact noF h
        | [_, z], _ :: _, h => cases z <;> exact noF h
        | _ :: z :: _ :: _, kws, h => cases z <;> exact noF h
      | _ => exact noF h
    | _ => exact noF h
theorem sL {ft : FT} {T : Tab} : ∀ (es : EL) {X : Cx} {W : WX} {c : Sc} (o : Ok X W ft T c) (xs : List Expr), chL T c es xs = true → PA X xs (TAv X.K W ft es)
  | .nil, X, W, c, o, xs, h => by
    cases xs with
    | nil => exact s_nil
    | cons _ _ => exact noF h
  | .cons e r, X, W, c, o, xs, h => by
    cases xs with
    | nil => exact noF h
    | cons x xs =>
      have h : (plainE x && chE T c false e x && chL T c r xs) = true := h
      simp only [Bool.and_eq_true] at h
      exact s_cons (sE e o false x h.1.2).e (sL r o xs h.2) (star_cons h.1.1)
theorem sD {ft : FT} {T : Tab} : ∀ (es : EL) {X : Cx} {W : WX} {c : Sc} (o : Ok X W ft T c) (pos : Pos) (ks : List (Option Expr)) (vs : List Expr), chD T c es ks vs = true → PPs X pos ks vs (trs X.K W ft es) ∧ ks.all (·.isSome) = true ∧ ks.length = vs.length
  | .nil, X, W, c, o, pos, ks, vs, h => by
    match ks, vs, h with
    | [], [], h => exact ⟨pps_nil, rfl, rfl⟩
    | _ :: _, _, h => exact noF h
    | [], _ :: _, h => exact noF h
  | .cons k .nil, X, W, c, o, pos, ks, vs, h => by
    exact noF h
  | .cons k (.cons v r), X, W, c, o, pos, ks, vs, h => by
    match ks, vs, h with
    | some x :: ks, y :: vs, h =>
      have h : (chE T c false k x && chE T c false v y && chD T c r ks vs) = true := h
      simp only [Bool.and_eq_true] at h
      obtain ⟨⟨h1, h2⟩, h3⟩ := h
      obtain ⟨q1, q2, q3⟩ := sD r o pos ks vs h3
      exact ⟨pps_cons (sE k o false x h1).e (sE v o false y h2).e q1, by simpa using q2, by simp [q3]⟩
    | [], _, h => exact noF h
    | none :: _, _, h => exact noF h
    | some _ :: _, [], h => exact noF h
theorem sB {ft : FT} {T : Tab} : ∀ (es : EL) {X : Cx} {W : WX} {c : Sc} (o : Ok X W ft T c) (t : Bool) (xs : List Expr), chB T c t es xs = true → GdB X W ft t es xs
  | .nil, X, W, c, o, t, xs, h => by exact noF h
  | .cons e .nil, X, W, c, o, t, xs, h => by
    match xs, h with
    | [x], h =>
      have q := sE e o t x h
      intro pos
      cases t with
      | false => exact ⟨s_and1 q.e, s_or1 q.e⟩
      | true => exact ⟨t_and1 q.t, t_or1 q.t⟩
    | [], h => exact noF h
    | x :: y :: xs, h =>
      have h : (chE T c t e x && chB T c t .nil (y :: xs)) = true := h
      exact noF (pair_and h).2
  | .cons e (.cons e2 r), X, W, c, o, t, xs, h => by
    match xs, h with
    | x :: y :: xs, h =>
      have h : (chE T c t e x && chB T c t (.cons e2 r) (y :: xs)) = true := h
      have h := pair_and h
      have q := sE e o t x h.1
      have rr := sB (.cons e2 r) o t (y :: xs) h.2
      intro pos
      cases t with
      | false => exact ⟨s_andc q.e (rr pos).1, s_orc q.e (rr pos).2⟩
      | true => exact ⟨t_andc q.t (rr pos).1, t_orc q.t (rr pos).2⟩
    | [], h => exact noF h
    | [_], h => exact noF h
theorem sO {ft : FT} {T : Tab} : ∀ (e : EO) {X : Cx} {W : WX} {c : Sc} (o : Ok X W ft T c) (x : Option Expr), chO T c e x = true → PO X x (TOv X.K W ft e)
  | .none, X, W, c, o, x, h => by
    cases x with
    | none => exact s_onone
    | some _ => exact noF h
  | .some e, X, W, c, o, x, h => by
    cases x with
    | none => exact noF h
    | some x => exact s_osome (sE e o false x h).e
theorem sC {ft : FT} {T : Tab} : ∀ (e : EO) {X : Cx} {W : WX} {c : Sc} (o : Ok X W ft T c) (xs : List Expr), chC T c e xs = true → PTs X xs (TCv X.K W ft e)
  | .none, X, W, c, o, xs, h => by
    cases xs with
    | nil => exact s_cnone
    | cons _ _ => exact noF h
  | .some e, X, W, c, o, xs, h => by
    match xs, h with
    | [x], h => exact s_csome (sE e o true x h).t
    | [], h => exact noF h
    | _ :: _ :: _, h => exact noF h
theorem sI {ft : FT} {T : Tab} : ∀ (s : Sr) {X : Cx} {W : WX} {c : Sc} (o : Ok X W ft T c) (tx x : Expr), chI T c s tx x = true → PI X tx x (TIv X.K W ft s)
  | .val e, X, W, c, o, tx, x, h => s_val (sE e o false x h).e
  | .itemsT e, X, W, c, o, tx, x, h => noF h
  | .items e, X, W, c, o, tx, x, h => noF h
  | .vals e, X, W, c, o, tx, x, h => noF h
  | .enum e, X, W, c, o, tx, x, h => by
    cases tx with
    | Tuple tes n tp =>
      cases x with
      | Call fn xs kws p =>
        cases fn with
        | Name g q =>
          match xs, kws, h with
          | [y], [], h =>
            have h : (decide (g = "enumerate") && bi1 T c "enumerate" && plainE y && chE T c false e y) = true := h
            simp only [Bool.and_eq_true, decide_eq_true_eq] at h
            obtain ⟨⟨⟨h1, h2⟩, h3⟩, h4⟩ := h
            subst h1
            have h2 := pair_and h2
            exact s_enum (o.gl h2.1) (o.bts _ h2.2) h3 (sE e o false y h4).e
          | [], _, h => exact noF h
          | [_], _ :: _, h => exact noF h
          | _ :: _ :: _, _, h => exact noF h
        | _ => exact noF h
      | _ => exact noF h
    | _ => exact noF h
  | .zip a b, X, W, c, o, tx, x, h => by
    cases tx with
    | Tuple tes n tp =>
      cases x with
      | Call fn xs kws p =>
        cases fn with
        | Name g q =>
          match xs, kws, h with
          | [y, z], [], h =>
            have h : (decide (g = "zip") && bi1 T c "zip" && plainE y && plainE z && chE T c false a y && chE T c false b z) = true := h
            simp only [Bool.and_eq_true, decide_eq_true_eq] at h
            obtain ⟨⟨⟨⟨⟨h1, h2⟩, h3⟩, h4⟩, h5⟩, h6⟩ := h
            subst h1
            have h2 := pair_and h2
            exact s_zip (o.gl h2.1) (o.bts _ h2.2) h3 h4 (sE a o false y h5).e (sE b o false z h6).e
          | [], _, h => exact noF h
          | [_], _, h => exact noF h
          | [_, _], _ :: _, h => exact noF h
          | _ :: _ :: _ :: _, _, h => exact noF h
        | _ => exact noF h
      | _ => exact noF h
    | _ => exact noF h
  | .rng a, X, W, c, o, tx, x, h => by
    cases x with
    | Call fn xs kws p =>
      cases fn with
      | Name g q =>
        match xs, kws, h with
        | [y], [], h =>
          have h : (decide (g = "range") && bi1 T c "range" && plainE y && chE T c false a y) = true := h
          simp only [Bool.and_eq_true, decide_eq_true_eq] at h
          obtain ⟨⟨⟨h1, h2⟩, h3⟩, h4⟩ := h
          subst h1
          have h2 := pair_and h2
          exact s_rng (o.gl h2.1) (o.bts _ h2.2) h3 (sE a o false y h4).e
        | [], _, h => exact noF h
        | [_], _ :: _, h => exact noF h
        | _ :: _ :: _, _, h => exact noF h
      | _ => exact noF h
    | _ => exact noF h
  | .rng2 a b, X, W, c, o, tx, x, h => noF h
  | .inst e k, X, W, c, o, tx, x, h => noF h
end
end Rf
end
section
namespace Rf
open PySem L2
section
variable {X : Cx} {W : WX} {ft : FT} {T : Tab} {c : Sc}
theorem Ok.bk (o : Ok X W ft T c) : X.env.blockKind = .function := by
  unfold Env.blockKind
  rw [o.sc, o.kind]
  rfl
theorem Ok.kof (o : Ok X W ft T c) : X.env.kindOf = c.kd := by
  funext x
  unfold Env.kindOf
  rw [o.sc]
  rfl
theorem swW_ok (o : Ok X W ft T c) (value target : Expr) (line : Nat) : swapsWith value (some target) line X.env = pure (swW c value target) := by
  have hb := o.bk
  have hk := o.kof
  unfold swapsWith
  cases value <;> first
    | rfl
    | (cases target <;> first
        | rfl
        | (simp only [hb, hk, swW, compOf]
           congr 1
           first
             | rfl
             | (simp only [Expr.pos]
                show (true && _ && _ && _) = _
                rw [Bool.true_and]
                congr 1
                congr 1
                rw [← Bool.coe_iff_coe]
                simp)))
theorem swN_ok {value : Expr} {line : Nat} {env : PySem.Env} (h : compOf value = none) : swapsWith value none line env = pure false := by
  unfold swapsWith
  cases value <;> first | rfl | cases h
theorem swS_ok (o : Ok X W ft T c) {tg value : Expr} {r : Option (List Str)} (h : swS c tg value = some r) : swappedStores [tg] value X.env = pure r := by
  have hb := o.bk
  have hk := o.kof
  unfold swappedStores
  cases tg with
  | Tuple ts kk p =>
    cases value with
    | Tuple vs kv q =>
      unfold swS at h
      simp only at h
      simp only [hb, hk]
      generalize hn : ts.filterMap (nmB c ((ts.head?.map (·.pos.line)).getD 0)) = names at h
      change (if (!(ts.length == 2 || ts.length == 3) || vs.length != ts.length || (ScopeKind.function != ScopeKind.function)) = true then (pure none : Sem (Option (List Str))) else if (vs.any starB) = true then pure none else
        if ((ts.filterMap (nmB c ((ts.head?.map (·.pos.line)).getD 0))).length != ts.length || (ts.filterMap (nmB c ((ts.head?.map (·.pos.line)).getD 0))).eraseDups.length != (ts.filterMap (nmB c ((ts.head?.map (·.pos.line)).getD 0))).length) = true then pure none else
        if (vs.all (foldedForSure 8)) = true then pure none else if (vs.all (constantsAlone 8)) = true then _ else pure (some (ts.filterMap (nmB c ((ts.head?.map (·.pos.line)).getD 0))))) = pure r
      rw [hn]
      by_cases h1 : (!(ts.length == 2 || ts.length == 3) || vs.length != ts.length) = true
      · rw [if_pos h1] at h
        cases h
        rw [if_pos (by rw [h1]; rfl)]
      · rw [if_neg h1] at h
        rw [if_neg (by rw [Bool.eq_false_iff.mpr h1]; decide)]
        by_cases h2 : (vs.any starB) = true
        · rw [if_pos h2] at h
          cases h
          rw [if_pos h2]
        · rw [if_neg h2] at h
          rw [if_neg h2]
          by_cases h3 : (names.length != ts.length || names.eraseDups.length != names.length) = true
          · rw [if_pos h3] at h
            cases h
            rw [if_pos h3]
          · rw [if_neg h3] at h
            rw [if_neg h3]
            by_cases h4 : (vs.all (foldedForSure 8)) = true
            · rw [if_pos h4] at h
              cases h
              rw [if_pos h4]
            · rw [if_neg h4] at h
              rw [if_neg h4]
              by_cases h5 : (vs.all (constantsAlone 8)) = true
              · rw [if_pos h5] at h; cases h
              · rw [if_neg h5] at h
                cases h
                rw [if_neg h5]
    | _ => cases h; rfl
  | List ts p => cases h
  | _ => cases h; rfl
end
end Rf
end
section
namespace Rf
open PySem L2
section
variable {X : Cx} {W : WX} {ft : FT} {T : Tab} {c : Sc}
theorem sole_ok (o : Ok X W ft T c) (tx x : Expr) (line : Nat) (h : swW c x tx = false) : swapsWithSole [tx] x line X.env = pure false := by
  show swapsWith x (some tx) line X.env = pure false
  rw [swW_ok o, h]
theorem asgLc (o : Ok X W ft T c) {t : Tg} {own : List Nat} {tg : Tg} {s : Sr} {q : EO} {e : E} {tx x : Expr} {pos : Pos} (ht : chTg c t tx = true) (hw : swW c x tx = true) (h : chE T c false (.lc own tg s q e) x = true) : PS X (.Assign [tx] x pos) (TSv X.K W ft (.asg t (.lc own tg s q e))) := by
  cases x with
  | ListComp elt gs scope p =>
    match gs, h with
    | [⟨tgx, it, ifs, as⟩], h =>
      have h : (decide (as = 0) && blkC c.N c.sc scope (c.own own) && subB tg.all own && noSet it && chI T c s tgx it && chTg (c.blk scope) tg tgx && chC T (c.blk scope) q ifs && chE T (c.blk scope) false e elt) = true := h
      simp only [Bool.and_eq_true, decide_eq_true_eq] at h
      obtain ⟨⟨⟨⟨⟨⟨⟨h1, h2⟩, h3⟩, h4⟩, h5⟩, h6⟩, h7⟩, h8⟩ := h
      subst h1
      have ob := o.blk (kind_of h2)
      have bo : BlkOk X.N X.env.scope scope (c.own own) := by rw [o.N, o.sc]; exact blkOk_by h2
      have ho : ∀ i ∈ tg.all, i ∈ (c.own own).map (·.2) := by rw [own_map]; exact subB_ok h3
      have hsw := swW_ok o (.ListComp elt [⟨tgx, it, ifs, 0⟩] scope p) tx pos.line
      rw [hw] at hsw
      cases t with
      | nm i =>
        cases tx with
        | Name y py =>
          have hyl : c.kd y = some .local := by
            have hw : (decide (c.kd y = some .local) && (py.line == p.line) && !(scope.names.any fun (n, k) => n == y && (k == .local || k == .cell))) = true := hw
            simp only [Bool.and_eq_true, decide_eq_true_eq] at hw
            exact hw.1.1
          have tn := o.tgn (i := i) (x := y) ht
          have := s_setLc (W := W) (pos := p) (spos := pos) (py := py) o.calm o.nd tn.1 (o.kd hyl) hsw (sI s o tgx it h5) bo ho (fun a b C d f => s_tg (ob a b C d f).calm (ob a b C d f).nd ((ob a b C d f).tg h6)) (fun a b C d f => sC q (ob a b C d f) ifs h7) (fun a b C d f => (sE e (ob a b C d f) false elt h8).e) (noSet_ok h4 _)
          rw [own_map] at this
          exact s_asgLc this
        | _ => exact noF ht
      | tp is =>
        cases tx with
        | Tuple es k p2 => exact noF hw
        | _ => exact noF ht
    | [], h => exact noF h
    | ⟨_, _, _, _⟩ :: _ :: _, h => exact noF h
  | _ => exact noF h
theorem asgNewc (o : Ok X W ft T c) {t : Tg} {own : List Nat} {tg : Tg} {s : Sr} {q : EO} {e : E} {tx x : Expr} {pos : Pos} (ht : chTg c t tx = true) (hw : swW c x tx = true) (h : chE T c false (.newc own tg s q e) x = true) : PS X (.Assign [tx] x pos) (TSv X.K W ft (.asg t (.newc own tg s q e))) := by
  cases x with
  | ListComp elt gs scope p =>
    match gs, h with
    | [⟨tgx, it, ifs, as⟩], h =>
      have h : (decide (as = 0) && blkC c.N c.sc scope (c.own own) && subB tg.all own && noSet it && chI T c s tgx it && chTg (c.blk scope) tg tgx && chC T (c.blk scope) q ifs && chE T (c.blk scope) false e elt) = true := h
      simp only [Bool.and_eq_true, decide_eq_true_eq] at h
      obtain ⟨⟨⟨⟨⟨⟨⟨h1, h2⟩, h3⟩, h4⟩, h5⟩, h6⟩, h7⟩, h8⟩ := h
      subst h1
      have ob := o.blk (kind_of h2)
      have bo : BlkOk X.N X.env.scope scope (c.own own) := by rw [o.N, o.sc]; exact blkOk_by h2
      have ho : ∀ i ∈ tg.all, i ∈ (c.own own).map (·.2) := by rw [own_map]; exact subB_ok h3
      have hsw := swW_ok o (.ListComp elt [⟨tgx, it, ifs, 0⟩] scope p) tx pos.line
      rw [hw] at hsw
      cases t with
      | nm i =>
        cases tx with
        | Name y py =>
          have hyl : c.kd y = some .local := by
            have hw : (decide (c.kd y = some .local) && (py.line == p.line) && !(scope.names.any fun (n, k) => n == y && (k == .local || k == .cell))) = true := hw
            simp only [Bool.and_eq_true, decide_eq_true_eq] at hw
            exact hw.1.1
          have tn := o.tgn (i := i) (x := y) ht
          have := s_setNewc (W := W) (pos := p) (spos := pos) (py := py) o.calm o.nd tn.1 (o.kd hyl) hsw (sI s o tgx it h5) bo ho (fun a b C d f => s_tg (ob a b C d f).calm (ob a b C d f).nd ((ob a b C d f).tg h6)) (fun a b C d f => sC q (ob a b C d f) ifs h7) (fun a b C d f => (sE e (ob a b C d f) false elt h8).e) (noSet_ok h4 _)
          rw [own_map] at this
          exact s_asgLc this
        | _ => exact noF ht
      | tp is =>
        cases tx with
        | Tuple es k p2 => exact noF hw
        | _ => exact noF ht
    | [], h => exact noF h
    | ⟨_, _, _, _⟩ :: _ :: _, h => exact noF h
  | _ => exact noF h
theorem nl_ok (o : Ok X W ft T c) {x : Str} {p : Pos} (h : nlB c (.Name x p) = true) : X.env.scope.names.lookup x = some .local := o.kd (of_decide_eq_true h)
end
theorem par_ok {ft : FT} {T : Tab} {X : Cx} {W : WX} {c : Sc} (o : Ok X W ft T c) {is : List Nat} {es : EL} {ts xs : List Expr} {k k2 : Nat} {p p2 pos : Pos} (h : chS T c (.par is es) (.Assign [.Tuple ts k p] (.Tuple xs k2 p2) pos) = true) :
    PS X (.Assign [.Tuple ts k p] (.Tuple xs k2 p2) pos) (TSv X.K W ft (.par is es)) := by
  have h : (chN c is ts && chL T c es xs && decide (is.Nodup) && decide (swS c (.Tuple ts k p) (.Tuple xs k2 p2) = some (some (ts.filterMap nmO))) && (ts.all (nlB c)) && decide (is.length = xs.length) && (decide (is.length = 2) || decide (is.length = 3))) = true := h
  simp only [Bool.and_eq_true, decide_eq_true_eq, Bool.or_eq_true] at h
  obtain ⟨⟨⟨⟨⟨⟨h1, h2⟩, h3⟩, h4⟩, h5⟩, h6⟩, h7⟩ := h
  have hw := swS_ok o h4
  have hs := sole_ok o (.Tuple ts k p) (.Tuple xs k2 p2) pos.line rfl
  have ha := sL es o xs h2
  rcases h7 with h7 | h7
  · match is, h7, xs, h6 with
    | [i, j], _, [a, b], _ =>
      match ts, h1 with
      | [.Name x px, .Name y py], h1 =>
        have h1 : (c.tgn i x && (c.tgn j y && true)) = true := h1
        simp only [Bool.and_eq_true] at h1
        have hij : i ≠ j := by simpa using h3
        have h5 : (nlB c (.Name x px) && (nlB c (.Name y py) && true)) = true := h5
        simp only [Bool.and_eq_true] at h5
        exact s_par2 o.calm o.nd (o.tgn h1.1).1 (o.tgn h1.2.1).1 hij (nl_ok o h5.1) (nl_ok o h5.2.1) ha hw hs
      | [], h1 => exact noF h1
      | [t1], h1 => cases t1 <;> first | exact noF h1 | exact noF (pair_and h1).2
      | t1 :: t2 :: t3 :: ts, h1 => cases t1 <;> first | exact noF h1 | (have h1 := (pair_and h1).2; cases t2 <;> first | exact noF h1 | exact noF (pair_and h1).2)
      | [t1, t2], h1 => cases t1 <;> first
          | exact noF h1
          | (have h1' := (pair_and h1).2
             cases t2 <;> first
               | exact noF h1'
               | (rename_i x px y py
                  have h1 : (c.tgn i x && (c.tgn j y && true)) = true := h1
                  simp only [Bool.and_eq_true] at h1
                  have hij : i ≠ j := by simpa using h3
                  have h5 : (nlB c (.Name x px) && (nlB c (.Name y py) && true)) = true := h5
                  simp only [Bool.and_eq_true] at h5
                  exact s_par2 o.calm o.nd (o.tgn h1.1).1 (o.tgn h1.2.1).1 hij (nl_ok o h5.1) (nl_ok o h5.2.1) ha hw hs))
  · match is, h7, xs, h6 with
    | [i, j, q], _, [a, b, d], _ =>
      have pr := o.chN h1
      cases pr with
      | cons e1 r1 =>
        cases r1 with
        | cons e2 r2 =>
          cases r2 with
          | cons e3 r3 =>
            cases r3
            obtain ⟨x, px, rfl, t1⟩ := e1
            obtain ⟨y, py, rfl, t2⟩ := e2
            obtain ⟨z, pz, rfl, t3⟩ := e3
            have h3 : ((i ≠ j ∧ i ≠ q) ∧ j ≠ q) := by simpa using h3
            have h5 : (nlB c (.Name x px) && (nlB c (.Name y py) && (nlB c (.Name z pz) && true))) = true := h5
            simp only [Bool.and_eq_true] at h5
            exact s_par3 o.calm o.nd t1.1 t2.1 t3.1 h3.1.1 h3.1.2 h3.2 (nl_ok o h5.1) (nl_ok o h5.2.1) (nl_ok o h5.2.2.1) ha hw hs
theorem chCon_ok : ∀ {e : E} {x : Expr}, chCon e x = true → conE e = true ∧ ∀ (Y : Cx) (W : WX) (ft : FT), PE Y x (TEv Y.K W ft e) := fun {e x} h => by
  unfold chCon at h
  split at h
  · split at h
    · exact ⟨rfl, fun Y W ft => s_non⟩
    · cases h
  · split at h
    · have h := eq_of_beq h
      subst h
      exact ⟨rfl, fun Y W ft => s_bl⟩
    · cases h
  · split at h
    · have h := of_decide_eq_true h
      subst h
      exact ⟨rfl, fun Y W ft => s_int⟩
    · cases h
  · split at h
    · have h := of_decide_eq_true h
      subst h
      exact ⟨rfl, fun Y W ft => s_str⟩
    · cases h
  · split at h
    · split at h
      · have h := of_decide_eq_true h
        subst h
        exact ⟨rfl, fun Y W ft => s_tup (s_cons s_str s_nil (star_cons rfl))⟩
      · cases h
    · cases h
  · cases h
section
variable {X : Cx} {W : WX} {ft : FT} {T : Tab} {c : Sc}
theorem asB_ok (o : Ok X W ft T c) {as : Option Nat} {n : Str} (h : asB c as n = true) : ∃ i, as = some i ∧ X.N[i]? = some n ∧ Vis X.env.scope n ∧ (n == ("__debug__" : Str)) = false ∧ (n == ("__classdict__" : Str)) = false := by
  unfold asB at h
  split at h
  · simp only [Bool.and_eq_true, decide_eq_true_eq, Bool.not_eq_true'] at h
    obtain ⟨⟨⟨h1, h2⟩, h3⟩, h4⟩ := h
    exact ⟨_, rfl, by rw [o.N]; exact h1, o.vis h2, nodbg_ok h3, h4⟩
  · cases h
theorem fldB_ok (o : Ok X W ft T c) {q f : Str} (h : fldB T q f = true) : XfC X.K (He.ga X.K q) ∧ PySem.W.findIn X.K (.ref (He.ga X.K q)) f = some none := by
  unfold fldB at h
  split at h
  · rename_i fs e
    obtain ⟨_, _, h1, h2⟩ := o.xcs q fs e
    exact ⟨h1, h2 f (by simpa using h)⟩
  · cases h
theorem chV_ok (o : Ok X W ft T c) {as : Option Nat} {q : Str} {v : HV} {x : Expr} (h : chV T c as q v x = true) : VOk X ft as q v x := by
  unfold chV at h
  split at h
  · simp only [Bool.and_eq_true, decide_eq_true_eq] at h
    obtain ⟨⟨⟨h1, h2⟩, h3⟩, h4⟩ := h
    split at h1
    · have h1 := of_decide_eq_true h1
      subst h1 h2
      obtain ⟨i, rfl, e1, e2, e3, e4⟩ := asB_ok o h3
      obtain ⟨f1, f2⟩ := fldB_ok o h4
      exact .tag e1 e2 e3 e4 f1 f2
    · cases h1
  · simp only [Bool.and_eq_true, decide_eq_true_eq] at h
    obtain ⟨⟨h2, h3⟩, h4⟩ := h
    subst h2
    obtain ⟨i, rfl, e1, e2, e3, e4⟩ := asB_ok o h3
    obtain ⟨f1, f2⟩ := fldB_ok o h4
    exact .fld e1 e2 e3 e4 f1 f2
  · rename_i neg i j x px y py ps op r pc
    simp only [Bool.and_eq_true, decide_eq_true_eq] at h
    obtain ⟨⟨⟨⟨⟨h0, h1⟩, h2⟩, h3⟩, h4⟩, h5⟩ := h
    have h0 : neg = false := by simpa using h0
    subst h0
    subst h1
    have h5 : behindInMarks .Eq r = false := by simpa using h5
    have h2 : (decide (c.N[i]? = some x) && c.vis x && nodbg x && !(x == ("__classdict__" : Str))) = true := h2
    have h3 : (decide (c.N[j]? = some y) && c.vis y && nodbg y && !(y == ("__classdict__" : Str))) = true := h3
    simp only [Bool.and_eq_true, decide_eq_true_eq] at h2 h3
    obtain ⟨⟨⟨a1, a2⟩, a3⟩, a4⟩ := h2
    obtain ⟨⟨⟨b1, b2⟩, b3⟩, b4⟩ := h3
    cases r with
    | List es p2 =>
      cases es with
      | nil =>
        refine .con rfl fun a pn => ?_
        have un : (X.suite a pn).A.units + 64 < cLine := o.un
        refine s_emp un (s_idx (by omega) (s_var (by rw [← o.N] at a1; exact a1) (o.vis a2) (nodbg_ok a3) (by simpa using a4)) (s_var (by rw [← o.N] at b1; exact b1) (o.vis b2) (nodbg_ok b3) (by simpa using b4)) (okIx_ok rfl)) (s_lst s_nil) h5
      | cons _ _ => cases h4
    | _ => cases h4
  · obtain ⟨h1, h2⟩ := chCon_ok h
    exact .con h1 fun a pn => h2 _ _ _
  · cases h
theorem chA_ok (o : Ok X W ft T c) {as : Option Nat} {q : Str} {a : HA} {ss : List Stmt} (h : chA T c as q a ss = true) : AOk X ft as q a ss := by
  unfold chA at h
  split at h
  · rename_i j v y py l pos
    simp only [Bool.and_eq_true, decide_eq_true_eq] at h
    obtain ⟨⟨⟨⟨h1, h2⟩, h3⟩, h4⟩, h5⟩ := h
    have hn : compOf l = none := by
      cases e : compOf l with
      | none => rfl
      | some _ => rw [e] at h4; exact noF h4
    refine .set (chV_ok o h5) (by rw [o.N]; exact h1) (o.kd h2) (fun line => ?_) fun k hk e => h3 (by rw [hk, e])
    rw [swW_ok o]
    unfold swW
    rw [hn]
  · exact .ret (chV_ok o h)
  · cases h
theorem chHs_ok (o : Ok X W ft T c) : ∀ {hs : List Hd} {xs : List ExceptHandler}, chHs T c hs xs = true → HsOk X ft xs hs
  | [], [], _ => .nil
  | [], _ :: _, h => by cases h
  | _ :: _, [], h => by cases h
  | hd :: hs, x :: xs, h => by
    have h : (chH T c hd x && chHs T c hs xs) = true := h
    have h := pair_and h
    have h1 := h.1
    unfold chH at h1
    split at h1
    · rename_i x np nm ss pos
      simp only [Bool.and_eq_true, decide_eq_true_eq] at h1
      obtain ⟨⟨⟨⟨⟨e1, e2⟩, e3⟩, e4⟩, e5⟩, e6⟩ := h1
      subst e1
      cases eq : T.xc.lookup hd.c with
      | none => rw [eq] at e4; cases e4
      | some fs =>
        obtain ⟨_, m1, _⟩ := o.xcs hd.c fs eq
        refine .cons ⟨o.gl e2, nodbg_ok e3, .inl m1⟩ (fun c' hc => ?_) ?_ (chA_ok o e6) (chHs_ok o h.2)
        · rw [o.xf] at hc
          exact o.xmt c' hd.c hc e4
        · unfold chN1 at e5
          split at e5
          · exact .inl ⟨rfl, by simpa using e5⟩
          · split at e5
            · rename_i n _ i ei
              simp only [Bool.and_eq_true, decide_eq_true_eq] at e5
              exact .inr ⟨n, i, rfl, ei, by rw [o.N]; exact e5.1, o.kd e5.2⟩
            · cases e5
    · cases h1
end
mutual
theorem sS {ft : FT} {T : Tab} : ∀ (s : S) {X : Cx} {W : WX} {c : Sc} (o : Ok X W ft T c) (st : Stk X) (x : Stmt), chS T c s x = true → PS X x (TSv X.K W ft s)
  | .nope, X, W, c, o, st, x, h => nope_s
  | .fz i s, X, W, c, o, st, x, h => s_fz (sS s o st x h)
  | .pass, X, W, c, o, st, x, h => by
    cases x with
    | Pass p => exact s_pass
    | Expr y p =>
      cases y with
      | Constant k n q =>
        cases k with
        | str s => exact s_doc
        | _ => exact noF h
      | _ => exact noF h
    | _ => exact noF h
  | .brk, X, W, c, o, st, x, h => by
    cases x with
    | Break p => exact s_brk
    | _ => exact noF h
  | .cnt, X, W, c, o, st, x, h => by
    cases x with
    | Continue p => exact s_cnt
    | _ => exact noF h
  | .retN, X, W, c, o, st, x, h => by
    cases x with
    | Return v p =>
      cases v with
      | none => exact s_retN
      | some _ => exact noF h
    | _ => exact noF h
  | .ret e, X, W, c, o, st, x, h => by
    cases x with
    | Return v p =>
      cases v with
      | none => exact noF h
      | some y => exact s_ret (sE e o false y h).e
    | _ => exact noF h
  | .expr e, X, W, c, o, st, x, h => by
    cases x with
    | Expr y p =>
      have h : ((compOf y).isNone && chE T c false e y) = true := h
      have h := pair_and h
      have hn : compOf y = none := by
        have := h.1
        cases e : compOf y with
        | none => rfl
        | some _ => rw [e] at this; exact noF this
      exact s_expr (sE e o false y h.2).e (swN_ok hn)
    | _ => exact noF h
  | .asg t e, X, W, c, o, st, x, h => by
    cases x with
    | Assign tgs y p =>
      match tgs, h with
      | [tx], h =>
        have h : (chTg c t tx && chE T c false e y && ((!swW c y tx && decide (swS c tx y = some none)) || (swW c y tx && lcB e))) = true := h
        simp only [Bool.and_eq_true, Bool.or_eq_true, decide_eq_true_eq] at h
        obtain ⟨⟨h1, h2⟩, h3⟩ := h
        rcases h3 with ⟨h3, h4⟩ | ⟨h3, h4⟩
        · have h3 : swW c y tx = false := by simpa using h3
          exact s_asg o.calm o.nd (o.tg h1) (sE e o false y h2).e (sole_ok o tx y p.line h3) (swS_ok o h4)
        · cases e with
          | lc own tg s q e => exact asgLc o h1 h3 h2
          | newc own tg s q e => exact asgNewc o h1 h3 h2
          | _ => exact noF h4
      | [], h => exact noF h
      | _ :: _ :: _, h => exact noF h
    | _ => exact noF h
  | .par is es, X, W, c, o, st, x, h => by
    cases x with
    | Assign tgs y p =>
      match tgs, h with
      | [tx], h =>
        cases tx <;> first
          | exact noF h
          | (cases y <;> first | exact noF h | exact par_ok o h)
      | [], h => exact noF h
      | t1 :: _ :: _, h => cases t1 <;> exact noF h
    | _ => exact noF h
  | .fset a f e, X, W, c, o, st, x, h => noF h
  | .iset2 a k b l e, X, W, c, o, st, x, h => noF h
  | .iset a b e, X, W, c, o, st, x, h => by
    cases x with
    | Assign tgs y p =>
      match tgs, h with
      | [tx], h =>
        cases tx with
        | Subscript l r q =>
          have h : (chE T c false a l && chE T c false b r && chE T c false e y) = true := h
          simp only [Bool.and_eq_true] at h
          obtain ⟨⟨h1, h2⟩, h3⟩ := h
          exact s_iset o.un1 (sE a o false l h1).e (sE b o false r h2).e (sE e o false y h3).e (by rw [swW_ok o]; cases y <;> rfl)
        | _ => exact noF h
      | [], h => exact noF h
      | t1 :: _ :: _, h => cases t1 <;> exact noF h
    | _ => exact noF h
  | .raise k es, X, W, c, o, st, x, h => noF h
  | .tr b hs, X, W, c, o, st, x, h => by
    cases x with
    | Try body hds els fin p =>
      cases els with
      | cons _ _ => exact noF h
      | nil =>
        cases fin with
        | cons _ _ => exact noF h
        | nil =>
          have h : (!hds.isEmpty && chHs T c hs hds && chSL T c.noLam b body) = true := h
          simp only [Bool.and_eq_true] at h
          obtain ⟨⟨h1, h2⟩, h3⟩ := h
          cases hds with
          | nil => cases h1
          | cons h₀ hds => exact s_tr st.1 st.2 o.nd o.tk (fun W' pn xe tk ow => sSL b (o.tr tk ow) st body h3) (chHs_ok o h2)
    | _ => exact noF h
  | .ife q s1 s2, X, W, c, o, st, x, h => by
    cases x with
    | If y u1 u2 p =>
      have h : (chE T c true q y && chSL T c s1 u1 && chSL T c s2 u2) = true := h
      simp only [Bool.and_eq_true] at h
      exact s_if (sE q o true y h.1.1).t (sSL s1 o st u1 h.1.2) (sSL s2 o st u2 h.2)
    | _ => exact noF h
  | .for t s b, X, W, c, o, st, x, h => by
    cases x with
    | For tx it body els p =>
      cases els with
      | nil =>
        have h : (chTg c t tx && noSet it && chI T c s tx it && chSL T c b body) = true := h
        simp only [Bool.and_eq_true] at h
        obtain ⟨⟨⟨h1, h2⟩, h3⟩, h4⟩ := h
        exact s_for o.own o.calm (sI s o tx it h3) (s_tg o.calm o.nd (o.tg h1)) (sSL b o st body h4) (noSet_ok h2 _)
      | cons _ _ => exact noF h
    | _ => exact noF h
  | .forl t a b, X, W, c, o, st, x, h => noF h
  | .whl q b, X, W, c, o, st, x, h => noF h
theorem sSL {ft : FT} {T : Tab} : ∀ (s : SL) {X : Cx} {W : WX} {c : Sc} (o : Ok X W ft T c) (st : Stk X) (x : List Stmt), chSL T c s x = true → PSs X x (TLv X.K W ft s)
  | .nil, X, W, c, o, st, x, h => by
    cases x with
    | nil => exact ss_nil
    | cons _ _ => exact noF h
  | .cons s r, X, W, c, o, st, x, h => by
    cases x with
    | nil => exact noF h
    | cons x xs =>
      have h : (chS T c s x && chSL T c r xs) = true := h
      have h := pair_and h
      exact ss_cons (sS s o st x h.1) (sSL r o st xs h.2)
end
end Rf
end
section
namespace Rf
open PySem L2 PyProof.Rows
theorem oexB_ok {K : Frg} {C : Addr} (h : oexB K C = true) : OexC K C := by
  unfold oexB at h
  simp only [Bool.and_eq_true, decide_eq_true_eq] at h
  obtain ⟨⟨⟨⟨h1, h2⟩, h3⟩, h4⟩, h5⟩ := h
  refine ⟨?_, He.eqO_ok h2, h3, h4, h5⟩
  split at h1
  · rename_i dd cd sl ho
    split at h1
    · rename_i C' bm k0 k1 k2 k3 n k5 hm hs
      simp only [Bool.and_eq_true, beq_iff_eq, Bool.not_eq_true'] at h1
      obtain ⟨⟨⟨⟨rfl, rfl⟩, hdel⟩, hd⟩, hr⟩ := h1
      obtain ⟨nm, bs, mro, ns, qn, hdct, sn, sub, ab, col, del⟩ := cd
      dsimp only at hm hdel hd
      subst hm hdel hd
      have hsl : sl = #[k0, k1, k2, k3, some (.builtin "ValueError.__new__"), k5] := by
        obtain ⟨l⟩ := sl
        simp only at hs
        rw [hs]
      subst hsl
      exact ⟨nm, qn, ns, bs, bm, sn, sub, ab, col, dd, k0, k1, k2, k3, k5, ho, hr⟩
    · cases h1
  · cases h1
theorem plainB_ok {a : Arguments} {ps : List Str} (h : plainB a ps = true) : a.posonlyargs = [] ∧ a.vararg = none ∧ a.kwonlyargs = [] ∧ a.kwarg = none ∧ a.args.map (·.arg) = ps ∧ ps.Nodup := by
  unfold plainB at h
  simp only [Bool.and_eq_true, decide_eq_true_eq, List.isEmpty_iff, Option.isNone_iff_eq_none] at h
  obtain ⟨⟨⟨⟨⟨h1, h2⟩, h3⟩, h4⟩, h5⟩, h6⟩ := h
  exact ⟨h1, h2, h3, h4, h5, h6⟩
theorem xinB_ok {P : Program} {K : Frg} {file : Str} {C : Addr} {g : Option Str} (hP : P.main.file = file) (hT : (P.main.scope.names.lookup ("super" : Str)).isSome = false) (h : xinB K file C g = true) : ∃ fI cc c qual params body scope, XIn P K C fI cc c g qual params body scope := by
  unfold xinB at h
  simp only [Bool.and_eq_true, decide_eq_true_eq] at h
  obtain ⟨⟨⟨⟨⟨h1, h2⟩, h3⟩, h4⟩, h5⟩, h6⟩ := h
  split at h2
  · rename_i fI hi
    simp only [Bool.and_eq_true, decide_eq_true_eq] at h2
    obtain ⟨h2, h7⟩ := h2
    split at h7
    · rename_i oc od fd osl lk
      unfold initB at h7
      simp only [Bool.and_eq_true, decide_eq_true_eq] at h7
      obtain ⟨⟨⟨⟨⟨⟨⟨⟨n1, n2⟩, n3⟩, n4⟩, n5⟩, n6⟩, n7⟩, n8⟩, n9⟩ := h7
      obtain ⟨name, qual, params, fbody, scope, gl, cl, dV, kV, doc, pm, an, code, ct, bl⟩ := fd
      dsimp only at n1 n2 n3 n4 n5 n6 n7 n8 n9
      subst n1 n3 n4 n5 n6
      split at n2
      · rename_i b
        split at n2
        · rename_i n cc
          simp only [Bool.and_eq_true, decide_eq_true_eq] at n2
          obtain ⟨⟨⟨m1, m2⟩, m3⟩, m4⟩ := n2
          subst m1
          split at m3
          · rename_i c
            simp only [Bool.and_eq_true, decide_eq_true_eq] at m3
            obtain ⟨m3, m5⟩ := m3
            refine ⟨fI, cc, c, qual, params, b, scope, oexB_ok h1, hi, h2, ⟨oc, od, doc, pm, an, ct, osl, lk⟩, m3, ?_, ?_, h3, He.eqO_ok h4, h5, h6, hT, plainB_ok n7, NdefX.nscope_by n8, n9, ?_⟩
            · unfold fileIn at m5
              split at m5
              · rename_i ccl cdd vs ccs lc
                split at m5
                · rename_i f tf hv
                  have m5 := Option.some.inj m5
                  subst m5
                  exact ⟨ccl, cdd, vs, ccs, f, tf, lc, hv, by rw [hP]; simp⟩
                · cases m5
              · cases m5
            · unfold cellB at m2
              split at m2
              · rename_i cl cld D csl lc
                have m2 : D = C := eq_of_beq m2
                subst m2
                exact ⟨cl, cld, csl, lc⟩
              · cases m2
            · unfold bodyX at m4
              split at m4
              · rename_i s p0 p1 m p2 t kd p5 p3 p4 rest
                simp only [Bool.and_eq_true, decide_eq_true_eq] at m4
                obtain ⟨⟨⟨e1, e2⟩, e3⟩, e4⟩ := m4
                subst e1 e2
                refine ⟨p0, p1, p2, p3, p4, t, kd, p5, rest, rfl, e3, ?_⟩
                cases g with
                | none => exact List.isEmpty_iff.mp e4
                | some f =>
                  dsimp only at e4
                  split at e4
                  · rename_i x q0 f' q1 y q2 q3
                    simp only [Bool.and_eq_true, decide_eq_true_eq, Bool.not_eq_true'] at e4
                    obtain ⟨⟨⟨⟨⟨d1, d2⟩, d3⟩, d4⟩, d5⟩, d6⟩ := e4
                    subst d1 d2 d3
                    exact ⟨q0, q1, q2, q3, rfl, He.eqO_ok d4, d5, d6⟩
                  · cases e4
              · cases m4
          · cases m3
        · cases n2
      · cases n2
    · cases h7
  · cases h2
theorem lookup_mem {α : Type} {k : Addr} {v : α} : ∀ {l : List (Addr × α)}, l.lookup k = some v → (k, v) ∈ l
  | [], h => by cases h
  | (j, u) :: r, h => by
    have h2 : (match k == j with | true => some u | false => r.lookup k) = some v := h
    cases q : (k == j) with
    | true =>
      rw [q] at h2
      have e : k = j := by simpa using q
      rw [e, Option.some.inj h2]
      exact List.mem_cons_self ..
    | false => rw [q] at h2; exact List.mem_cons_of_mem _ (lookup_mem h2)
theorem lamDB_ok {K : Frg} {at_ : Str × Option Str} {qual : Str} (h : lamDB K at_ qual = true) {oc : Value} {od : Option Addr} {fd : FuncData} {osl : Array (Option Value)} (lk : K.lookup (He.fAd K at_) = some ⟨oc, od, .func fd, osl⟩) :
    ∃ c P, fd.code = .ref c ∧ (c, P, qual ++ ".<locals>." ++ "<lambda>") ∈ csOf K ∧ ∀ p ∈ tbs K, p.1 = P → p.2 = qual ++ ".<locals>." ++ "<lambda>" := by
  unfold lamDB at h
  rw [lk] at h
  dsimp only at h
  split at h
  · rename_i c hc
    simp only [Bool.and_eq_true, decide_eq_true_eq] at h
    obtain ⟨⟨h1, h2⟩, h3⟩ := h
    subst h2
    refine ⟨c, He.tabOf K c, hc, ?_, fun p hp e => ?_⟩
    · unfold csOf
      refine List.mem_filterMap.mpr ⟨(He.fAd K at_, ⟨oc, od, .func fd, osl⟩), lookup_mem lk, ?_⟩
      show (match fd.code with | .ref c => if PySem.W.codeHdIn K c (He.tabOf K c) then some (c, He.tabOf K c, fd.qualname ++ ".<locals>." ++ "<lambda>") else none | _ => none) = _
      rw [hc]
      exact if_pos h1
    · obtain ⟨q, hq, rfl⟩ := List.mem_map.mp hp
      have := List.all_eq_true.mp h3 q hq
      rw [Bool.or_eq_true] at this
      rcases this with z | z
      · rw [e] at z; simp at z
      · exact of_decide_eq_true z
  · cases h
theorem csOf_hd {K : Frg} {p : Addr × Addr × Str} (h : p ∈ csOf K) : PySem.W.codeHdIn K p.1 p.2.1 = true := by
  unfold csOf at h
  obtain ⟨q, _, e⟩ := List.mem_filterMap.mp h
  obtain ⟨a, o⟩ := q
  dsimp only at e
  split at e
  · split at e
    · split at e
      · rename_i hc
        cases e
        exact hc
      · cases e
    · cases e
  · cases e
end Rf
end
section
namespace Rf
open PySem L2 PyProof.Rows
section
variable {X : Cx} {a : Addr} {oe : Obj} {cls : Value} {d : Option Addr} {q y f c1 c2 c3 s1 s2 s3 s4 : Str} {j : Nat}
theorem pt_isK {c : Str} {b : Bool} {p1 p2 p3 p4 : Pos} (hm : (a, oe) ∈ X.pn) (hz : Zc cls d oe) (hf : ∃ vs, oe.data = .fields vs) (ec : cls = .ref (He.ga X.K q)) (T : XfC X.K (He.ga X.K q)) (S : IsC X.K (He.ga X.K q))
    (hj : X.N[j]? = some y) (hly : Vis X.env.scope y) (yd : (y == ("__debug__" : Str)) = false) (yc : (y == ("__classdict__" : Str)) = false) (gi : Gl X "isinstance") (mi : X.mg "isinstance" = none)
    (gc : Gl X c) (cd : (c == ("__debug__" : Str)) = false) (mc : X.mg c = some (.ref (He.ga X.K c))) (hk : PySem.W.kitOne X.K (.ref (He.ga X.K q)) (.ref (He.ga X.K c)) = some b) :
    PT X (.Call (.Name "isinstance" p1) [.Name y p2, .Name c p3] [] p4) (fun σ H Q => σ[j]? = some (some (.ref a)) ∧ (∃ dd fs, d = some dd ∧ H dd = some (.xd fs)) ∧ Q b H) := by
  have pe := pe_callB (X := X) (p := p1) (pos := p4) (call_isK T S ec hm hz hf) gi mi (by decide +kernel) (pa_cons (pe_var (pos := p2) hj hly yd yc) (pa_cons (pe_glob (pos := p3) (v := .ref (He.ga X.K c)) gc mc rfl cd) pa_nil)) (by decide +kernel) (by decide +kernel)
  refine ⟨fun pins s σ H Q I h => (pt_val pe).run pins s σ H Q I ?_⟩
  obtain ⟨h1, h2, h3⟩ := h
  refine ⟨.ref a, h1, ?_⟩
  refine ⟨.ref (He.ga X.K c), .ref (He.ga X.K c), b, rfl, fun u r => r, by rw [ec]; exact hk, h2, b, rfl, h3⟩
theorem pss_restK {k1 k2 k3 k4 k5 k6 k7 k8 k9 : Nat} {p : Nat → Pos} (hm : (a, oe) ∈ X.pn) (hz : Zc cls d oe) (hf : ∃ vs, oe.data = .fields vs) (ec : cls = .ref (He.ga X.K q)) (T : XfC X.K (He.ga X.K q)) (S : IsC X.K (He.ga X.K q)) (hno : PySem.W.findIn X.K (.ref (He.ga X.K q)) f = some none)
    (hj : X.N[j]? = some y) (hly : Vis X.env.scope y) (yd : (y == ("__debug__" : Str)) = false) (yc : (y == ("__classdict__" : Str)) = false) (gi : Gl X "isinstance") (mi : X.mg "isinstance" = none)
    (g : ∀ c ∈ [c1, c2, c3], Gl X c ∧ (c == ("__debug__" : Str)) = false ∧ X.mg c = some (.ref (He.ga X.K c)) ∧ PySem.W.kitOne X.K (.ref (He.ga X.K q)) (.ref (He.ga X.K c)) = some (decide (q = c))) :
    PSs X [.If (.Compare (.Name y (p 0)) [.Is] [.Constant .none k1 (p 1)] (p 2)) [.Return (some (.Constant .none k2 (p 3))) (p 4)] [] (p 5),
      .If (.Call (.Name "isinstance" (p 6)) [.Name y (p 7), .Name c1 (p 8)] [] (p 9)) [.Return (some (.Tuple [.Constant (.str s1) k3 (p 10), .Attribute (.Name y (p 11)) f (p 12)] k4 (p 13))) (p 14)] [] (p 15),
      .If (.Call (.Name "isinstance" (p 16)) [.Name y (p 17), .Name c2 (p 18)] [] (p 19)) [.Return (some (.Tuple [.Constant (.str s2) k5 (p 20), .Attribute (.Name y (p 21)) f (p 22)] k6 (p 23))) (p 24)] [] (p 25),
      .Return (some (.Tuple [.IfExp (.Call (.Name "isinstance" (p 26)) [.Name y (p 27), .Name c3 (p 28)] [] (p 29)) (.Constant (.str s3) k7 (p 30)) (.Constant (.str s4) k8 (p 31)) (p 32), .Attribute (.Name y (p 33)) f (p 34)] k9 (p 35))) (p 36)]
      (fun D σ H => σ[j]? = some (some (.ref a)) ∧ ∃ dd fs v, d = some dd ∧ H dd = some (.xd fs) ∧ fs.lookup f = some v ∧ ([V.str (kTag q c1 c2 c3 s1 s2 s3 s4), v].length ≤ sizeLine ∧ ∀ p, H p = none → D.rt (.ref p) (upd H p (.tup [.str (kTag q c1 c2 c3 s1 s2 s3 s4), v])))) := by
  obtain ⟨g1, d1, m1, e1⟩ := g c1 (by simp)
  obtain ⟨g2, d2, m2, e2⟩ := g c2 (by simp)
  obtain ⟨g3, d3, m3, e3⟩ := g c3 (by simp)
  have fld : ∀ pa pb, PE X (.Attribute (.Name y pa) f pb) (tXf a cls d (He.ga X.K q) f (tVar j)) := fun pa pb => pe_xfK T hno hm hz hf (pe_var hj hly yd yc)
  have all := pss_cons (ps_if (pos := p 5) (pt_cmp (pos := p 2) (pc_isN (j := k1) (pos' := p 1) (pe_var (pos := p 0) hj hly yd yc))) (pss_one (ps_ret (pos := p 4) (pe_non (j := k2) (pos := p 3)))) pss_nil)
    (pss_cons (ps_if (pos := p 15) (pt_isK (p1 := p 6) (p2 := p 7) (p3 := p 8) (p4 := p 9) hm hz hf ec T S hj hly yd yc gi mi g1 d1 m1 e1) (pss_one (ps_ret (pos := p 14) (pe_tup (x1 := k4) (pos := p 13) (pa_cons (pe_str (x := s1) (j := k3) (pos := p 10)) (pa_cons (fld (p 11) (p 12)) pa_nil))))) pss_nil)
    (pss_cons (ps_if (pos := p 25) (pt_isK (p1 := p 16) (p2 := p 17) (p3 := p 18) (p4 := p 19) hm hz hf ec T S hj hly yd yc gi mi g2 d2 m2 e2) (pss_one (ps_ret (pos := p 24) (pe_tup (x1 := k6) (pos := p 23) (pa_cons (pe_str (x := s2) (j := k5) (pos := p 20)) (pa_cons (fld (p 21) (p 22)) pa_nil))))) pss_nil)
    (pss_one (ps_ret (pos := p 36) (pe_tup (x1 := k9) (pos := p 35) (pa_cons (pe_ifExp (pos := p 32) (pt_isK (p1 := p 26) (p2 := p 27) (p3 := p 28) (p4 := p 29) hm hz hf ec T S hj hly yd yc gi mi g3 d3 m3 e3) (pe_str (x := s3) (j := k7) (pos := p 30)) (pe_str (x := s4) (j := k8) (pos := p 31))) (pa_cons (fld (p 33) (p 34)) pa_nil)))))))
  refine ⟨fun pins s σ H D I h => all.run pins s σ H D I ?_⟩
  obtain ⟨hs, dd, fs, v, ed, eh, el, hl, hq⟩ := h
  have xd : ∃ dd fs, d = some dd ∧ H dd = some (.xd fs) := ⟨dd, fs, ed, eh⟩
  have nn : decide (V.ref a = V.non) = false := decide_eq_false (by intro z; cases z)
  have tell : ∀ s, s = kTag q c1 c2 c3 s1 s2 s3 s4 → ([V.str s, v].length ≤ sizeLine ∧ ∀ p, H p = none → D.rt (.ref p) (upd H p (.tup [.str s, v]))) := fun s e => by rw [e]; exact ⟨hl, hq⟩
  refine ⟨.ref a, hs, ?_⟩
  refine ⟨_, rfl, ?_⟩
  rw [nn]
  show (if false = true then _ else _)
  rw [if_neg Bool.false_ne_true]
  refine ⟨hs, xd, ?_⟩
  by_cases q1 : q = c1
  · rw [decide_eq_true q1]
    show (if true = true then _ else _)
    rw [if_pos rfl]
    have := tell s1 (by unfold kTag; rw [if_pos q1])
    exact ⟨.ref a, hs, rfl, ec, dd, fs, v, ed, eh, el, this⟩
  rw [decide_eq_false q1]
  show (if false = true then _ else _)
  rw [if_neg Bool.false_ne_true]
  refine ⟨hs, xd, ?_⟩
  by_cases q2 : q = c2
  · rw [decide_eq_true q2]
    show (if true = true then _ else _)
    rw [if_pos rfl]
    have := tell s2 (by unfold kTag; rw [if_neg q1, if_pos q2])
    exact ⟨.ref a, hs, rfl, ec, dd, fs, v, ed, eh, el, this⟩
  rw [decide_eq_false q2]
  show (if false = true then _ else _)
  rw [if_neg Bool.false_ne_true]
  refine ⟨hs, xd, ?_⟩
  by_cases q3 : q = c3
  · rw [decide_eq_true q3]
    show (if true = true then _ else _)
    rw [if_pos rfl]
    have := tell s3 (by unfold kTag; rw [if_neg q1, if_neg q2, if_pos q3])
    exact ⟨.ref a, hs, rfl, ec, dd, fs, v, ed, eh, el, this⟩
  · rw [decide_eq_false q3]
    show (if false = true then _ else _)
    rw [if_neg Bool.false_ne_true]
    have := tell s4 (by unfold kTag; rw [if_neg q1, if_neg q2, if_neg q3])
    exact ⟨.ref a, hs, rfl, ec, dd, fs, v, ed, eh, el, this⟩
end
end Rf
end
section
namespace Rf
open PySem L2 PyProof.Rows
theorem kit_exm {K : Frg} {c c' : Value} {b : Bool} (h : PySem.W.exmOne K c c' = some b) (h0 : c = c' → b = true) : PySem.W.kitOne K c c' = some b := by
  unfold PySem.W.exmOne at h
  unfold PySem.W.kitOne
  split at h
  · split
    · rename_i e
      rw [h0 (by simpa using e)]
    · exact h
  · cases h
theorem KpF.kit {K : Frg} {xf : Str → Option (List Str)} (F : KpF K xf) {c c' : Str} (h : (xf c).isSome = true) (h' : (xf c').isSome = true) : PySem.W.kitOne K (.ref (He.ga K c)) (.ref (He.ga K c')) = some (decide (c = c')) := by
  refine kit_exm (F.one c c' h h') fun e => ?_
  have e : He.ga K c = He.ga K c' := by simpa using e
  have h1 := F.one c c' h h'
  rw [← e, F.one c c h h] at h1
  have h2 := Option.some.inj h1
  rw [← h2]
  exact decide_eq_true rfl
theorem exm_any {K : Frg} {xf : Str → Option (List Str)} (F : KpF K xf) {q : Str} (hq : (xf q).isSome = true) : ∀ {cs : List Str}, (∀ c ∈ cs, (xf c).isSome = true) → PySem.W.exmAny K (.ref (He.ga K q)) (cs.map fun c => .ref (He.ga K c)) = some (cs.contains q)
  | [], _ => rfl
  | c :: cs, h => by
    have ih := exm_any F hq (cs := cs) fun c hc => h c (List.mem_cons_of_mem _ hc)
    show PySem.W.exmAny K _ (.ref (He.ga K c) :: cs.map fun c => .ref (He.ga K c)) = _
    unfold PySem.W.exmAny
    rw [F.one q c hq (h c (List.mem_cons_self ..)), ih]
    show some (decide (q = c) || cs.contains q) = some ((c :: cs).contains q)
    rw [List.contains_cons]
    by_cases e : q = c
    · rw [e]; simp
    · rw [decide_eq_false e]
      have : (q == c) = false := by simpa using e
      rw [this]
section
variable {X : Cx}
end
variable {X : Cx}
theorem fin_postK {K : Frg} {H : Hp} {μ : Mu} {σ : L2.St} {ρ : Env} {ft : FT} {b : SL} {Ω1 : Sto} {Q : VK} (at_ : At K σ H μ Ω1 ρ) (p : Post K (rD K) (fun _ _ _ _ => False) [] H μ Ω1 (finR (exL ft b ρ Ω1)) Q) : TLv K (fun _ _ _ _ => False) ft b { nx := fun _ H' => Q .non H', rt := Q } σ H := fin_post at_ p
theorem lam_givesK {Ng : List Str} {x a q : Str} {sg : Scope} {g : Addr} {cdg : Value} {ft : FT} {h : HD} {k : KeepE} {bp : List Stmt} {st : Stmt} {hk : ExceptHandler} {hds : List ExceptHandler} {bpost : List Stmt} {pos : Pos} (hN : Ng.Nodup) (h0 : Ng[0]? = some a) (hkd : sg.kind = .function) (ek : h.kp = some k) (efm : h.fm = .expr)
    (pre : PreOk Ng sg h.pre bp) (fm : FmOk a Ng sg h.fm st) (kt : KpT Ng sg k hk bpost)
    (kx : ∀ (f : Addr) (s : Shared) (H : Hp), KpX (cxOf C8.CX0 X.prog X.w X.K X.mg X.base Ng x sg g cdg X.A X.stack s H C8.E0).nox ft.xf k)
    (sw : ∀ (f : Addr) (s : Shared) (H : Hp) (e y : Str) (pn py : Pos), sg.names.lookup e = some .local → ∀ line, swapsWith (.Name e pn) (some (.Name y py)) line (cxOf C8.CX0 X.prog X.w X.K X.mg X.base Ng x sg g cdg X.A X.stack s H C8.E0).nox.env = pure false)
    (hh : ∀ (f : Addr) (s : Shared) (H : Hp), HsOk (cxOf C8.CX0 X.prog X.w X.K X.mg X.base Ng x sg g cdg X.A X.stack s H C8.E0).nox ft hds h.hs)
    (post : ∀ (f : Addr) (s : Shared) (H : Hp), PSs (cxOf C8.CX0 X.prog X.w X.K X.mg X.base Ng x sg g cdg X.A X.stack s H C8.E0).nox bpost (TLv X.K (fun _ _ _ _ => False) ft h.post)) :
    LamX.GivesTo X Ng x sg g cdg (bp ++ .Try [st] (hk :: hds) [] [] pos :: bpost) a q (TTr X.K ft Ng.length h) := by
  intro f c' s H Q tl act hc ht
  obtain ⟨μ, Ω, a0, wf, ha, p⟩ := ht
  generalize hZ : (cxOf C8.CX0 X.prog X.w X.K X.mg X.base Ng x sg g cdg X.A X.stack s H C8.E0).nox = Z
  have hh := hh f s H
  have post := post f s H
  have kx := kx f s H
  have sw := sw f s H
  rw [hZ] at hh post kx sw
  have eN : Z.N = Ng := by rw [← hZ]; rfl
  have eK : Z.K = X.K := by rw [← hZ]; rfl
  have eS : Z.env.scope = sg := by rw [← hZ]; rfl
  have stk : Z.stack = Z.env :: Z.outer := by rw [← hZ]; rfl
  have frm : Z.env.frame = some Z.env.locals := by rw [← hZ]; rfl
  have nl : 0 < Ng.length := (List.getElem?_eq_some_iff.mp h0).1
  have tk : Takes Z (fun _ _ _ _ => False) := LamX.takes0
  have act : ∀ (W : WX) (pn : List (Addr × Obj)) (xe : Value → Shared → Prop) (E : XK) (p1 p2 : Pos), Takes (Z.tr pn xe) W → (∀ cls d σ' H', E cls d H' → W cls d σ' H') → PE (Z.tr pn xe) (.Call (.Name a p1) [] [] p2) (fun σZ HZ Q => σZ[0]? = some (some (.ref f)) ∧ HZ c' = some (LamX.CodeO c' q) ∧ tl E HZ Q) := by
    rw [← hZ]; exact act
  obtain ⟨l, h2, kk⟩ := HsOk.to (W := fun _ _ _ _ => False) (by rw [eN]; exact hN) hh
  rw [eK] at kk
  have vis : ∀ {y : Str}, sg.names.lookup y = some .local → Z.env.scope.names.lookup y = some .local := fun {y} e => by rw [eS]; exact e
  obtain ⟨a1, a2, a3, a4, y, e, p1, p2, p3, p4, tpos, py, pn, pa, pos1, kk0, k1, k2, k3, k4, k5, k6, k7, k8, k9, pp, ecs, t1, t2, t3, t4, t5, t6, t7, t8, t9, ehk, t10, erest⟩ := kt.ex
  have inx : ∀ c ∈ k.cs, (ft.xf c).isSome = true := fun c hc => (kx.fld c hc).1
  have nm : ∀ c ∈ k.cs, Names Z c (.ref (He.ga Z.K c)) := fun c hc => ⟨(kx.gl c (List.mem_append_right _ hc)).1, t10 c (by rw [ecs] at hc; exact List.mem_cons_of_mem _ (List.mem_cons_of_mem _ (List.mem_cons_of_mem _ hc))), .inl (kx.gl c (List.mem_append_right _ hc)).2⟩
  have nm1 := nm a1 (by rw [ecs]; simp)
  have nm2 := nm a2 (by rw [ecs]; simp)
  have nm3 := nm a3 (by rw [ecs]; simp)
  have nm4 := nm a4 (by rw [ecs]; simp)
  have fme : ∃ p1 p2 p3, st = .Expr (.Call (.Name a p1) [] [] p2) p3 := by
    rw [efm] at fm
    cases fm
    exact ⟨_, _, _, rfl⟩
  obtain ⟨w1, w2, w3, est⟩ := fme
  have kept : ∀ (a : Addr) (oe : Obj) (cls : Value) (d : Option Addr) (pn : List (Addr × Obj)), Zc cls d oe → (∃ vs, oe.data = .fields vs) → PSs (Z.tr ((a, oe) :: pn) Z.xe) bpost (fun D σ H => ∃ q', cls = .ref (He.ga Z.K q') ∧ q' ∈ k.cs ∧ (σ[k.y]? = some (some (.ref a)) ∧ ∃ dd fs v, d = some dd ∧ H dd = some (.xd fs) ∧ fs.lookup k.f = some v ∧
      ([V.str (kTag q' k.k1 k.k2 k.k3 k.s1 k.s2 k.s3 k.s4), v].length ≤ sizeLine ∧ ∀ p, H p = none → D.rt (.ref p) (upd H p (.tup [.str (kTag q' k.k1 k.k2 k.k3 k.s1 k.s2 k.s3 k.s4), v]))))) := by
    intro a oe cls d pn hz hf
    refine ⟨fun pins s' σ H' D I hh => ?_⟩
    obtain ⟨q', ec, hq, hrest⟩ := hh
    rw [erest]
    have fq := kx.fld q' hq
    refine (pss_restK (X := Z.tr ((a, oe) :: pn) Z.xe) (q := q') (p := pp) (j := k.y) (List.mem_cons_self ..) hz hf ec (kx.F.T q' fq.1) (kx.F.S q' fq.1) fq.2 (by show Z.N[_]? = _; rw [eN]; exact t3) (.inl (vis t4)) t8 t9 kx.gi kx.mi (fun c hc => ?_)).run pins s' σ H' D I hrest
    have hx : (ft.xf c).isSome = true := by
      simp only [List.mem_cons, List.not_mem_nil, or_false] at hc
      rcases hc with rfl | rfl | rfl
      · exact kx.ks.1
      · exact kx.ks.2.1
      · exact kx.ks.2.2
    have g := kx.gl c (List.mem_append_left _ hc)
    exact ⟨g.1, t10 c (List.mem_append_left (bs := [a1, a2, a3, a4]) (as := [k.k1, k.k2, k.k3]) hc), g.2, kx.F.kit fq.1 hx⟩
  have try_ := pss_tryK (X := Z) (pos := pos) (body := [st]) (rest := bpost) (Wout := fun _ _ _ _ => False) (y := y) (n := e) (i := k.e) (j := k.y) (p1 := p1) (p2 := p2) (p3 := p3) (p4 := p4) (tpos := tpos) (py := py) (pn' := pn) (pa := pa) (pos' := pos1) (kk := kk0) stk frm (by rw [eN]; exact hN) tk
    (tb := fun W D σ H => ∃ Ech : XK, (∀ cls d σ' H', Ech cls d H' → W cls d σ' H') ∧ σ[0]? = some (some (.ref f)) ∧ H c' = some (LamX.CodeO c' q) ∧ tl Ech H (fun _ H' => D.nx σ H'))
    (fun W pn xe tkW _ => by
      refine ⟨fun pins s' σ H' D I h' => ?_⟩
      obtain ⟨Ech, hW, e1, e2, e3⟩ := h'
      rw [est]
      exact (pss_one (ps_expr (act W pn xe Ech _ _ tkW hW))).run pins s' σ H' D I ⟨e1, e2, e3⟩) nm1 nm2 nm3 nm4 (by rw [eN]; exact t1) (vis t2) (by rw [eN]; exact t3) (vis t4) t5 t6 t7 (sw e y pn py t2) h2 post kept
  rw [← ehk] at try_
  have core : ∀ σ0 : L2.St, σ0[0]? = some (some (.ref f)) → At X.K σ0 H μ Ω (preE Ng.length h.pre) → ∃ Ech : XK, (∀ cls d σ' H', Ech cls d H' → (fun cls d σ H => σ.length = Z.N.length → ∃ b, PySem.W.exmAny Z.K cls [.ref (He.ga Z.K a1), .ref (He.ga Z.K a2), .ref (He.ga Z.K a3), .ref (He.ga Z.K a4)] = some b ∧ (b = true → ∀ a, H a = none → (∃ q', cls = .ref (He.ga Z.K q') ∧ q' ∈ k.cs ∧ ((((σ.set k.e (some (.ref a))).set k.y (some (.ref a))).set k.e none)[k.y]? = some (some (.ref a)) ∧ ∃ dd fs v, d = some dd ∧ H dd = some (.xd fs) ∧ fs.lookup k.f = some v ∧
      ([V.str (kTag q' k.k1 k.k2 k.k3 k.s1 k.s2 k.s3 k.s4), v].length ≤ sizeLine ∧ ∀ p, H p = none → Q (.ref p) (upd H p (.tup [.str (kTag q' k.k1 k.k2 k.k3 k.s1 k.s2 k.s3 k.s4), v])))))) ∧ (b = false → wMany2 Z.K (fun _ _ _ _ => False) { nx := TLv X.K (fun _ _ _ _ => False) ft h.post { nx := fun _ H' => Q .non H', rt := Q }, rt := Q } l cls d σ H)) cls d σ' H') ∧
      σ0[0]? = some (some (.ref f)) ∧ H c' = some (LamX.CodeO c' q) ∧ tl Ech H (fun _ H' => TLv X.K (fun _ _ _ _ => False) ft h.post { nx := fun _ H' => Q .non H', rt := Q } σ0 H') := by
    intro σ0 e1 at_
    refine ⟨fun cls d H' => ∀ σ', σ'.length = Z.N.length → ∃ b, PySem.W.exmAny Z.K cls [.ref (He.ga Z.K a1), .ref (He.ga Z.K a2), .ref (He.ga Z.K a3), .ref (He.ga Z.K a4)] = some b ∧ (b = true → ∀ a, H' a = none → (∃ q', cls = .ref (He.ga Z.K q') ∧ q' ∈ k.cs ∧ ((((σ'.set k.e (some (.ref a))).set k.y (some (.ref a))).set k.e none)[k.y]? = some (some (.ref a)) ∧ ∃ dd fs v, d = some dd ∧ H' dd = some (.xd fs) ∧ fs.lookup k.f = some v ∧
      ([V.str (kTag q' k.k1 k.k2 k.k3 k.s1 k.s2 k.s3 k.s4), v].length ≤ sizeLine ∧ ∀ p, H' p = none → Q (.ref p) (upd H' p (.tup [.str (kTag q' k.k1 k.k2 k.k3 k.s1 k.s2 k.s3 k.s4), v])))))) ∧ (b = false → wMany2 Z.K (fun _ _ _ _ => False) { nx := TLv X.K (fun _ _ _ _ => False) ft h.post { nx := fun _ H' => Q .non H', rt := Q }, rt := Q } l cls d σ' H'), fun cls d σ' H' z => z σ', e1, hc, ha _ _ ?_⟩
    cases a0 with
    | bad => exact p
    | ok d Ω1 =>
      intro b H' μ' ex r
      have p := Post.ext ex p
      unfold runH at p
      rw [efm] at p
      exact fin_postK (at_.ext ex) p
    | ex x Ω1 =>
      intro d H' μ' ex xr σ' hl
      have p := Post.ext ex p
      unfold runH at p
      rw [ek] at p
      have p : Post X.K (rD X.K) (fun _ _ _ _ => False) [] H' μ' Ω1 (if (ft.xf x.cls).isSome = true ∧ (k.cs.all fun c => (ft.xf c).isSome) = true then (if k.cs.contains x.cls = true then (match x.fs.lookup k.f with
        | some d => .ok (.tup [.str (kTag x.cls k.k1 k.k2 k.k3 k.s1 k.s2 k.s3 k.s4), d]) Ω1
        | none => .bad) else (match handle ft x (List.replicate Ng.length none) Ω1 h.hs with
        | .ok (.nx ρ) Ω2 => finR (exL ft h.post ρ Ω2)
        | .ok (.rt d) Ω2 => .ok d Ω2
        | _ => .bad)) else .bad) Q := p
      by_cases hx : (ft.xf x.cls).isSome = true ∧ (k.cs.all fun c => (ft.xf c).isSome) = true
      · rw [if_pos hx] at p
        have any := exm_any kx.F hx.1 (cs := k.cs) inx
        rw [ecs] at any
        have xr : XRep X.K H' μ' Ω1 x d := xr
        refine ⟨_, by rw [← eK] at *; exact any, fun hb a na => ?_, fun hb => ?_⟩
        · rw [← ecs] at hb
          rw [if_pos hb] at p
          refine ⟨x.cls, by rw [eK], by simpa using hb, ?_, ?_⟩
          · rw [List.getElem?_set_ne (Ne.symm t5)]
            refine List.getElem?_set_self ?_
            rw [List.length_set, hl, eN]
            exact (List.getElem?_eq_some_iff.mp t3).1
          · cases el : x.fs.lookup k.f with
            | none => rw [el] at p; exact False.elim p
            | some d0 =>
              rw [el] at p
              rcases xr with ⟨e0, _⟩ | ⟨dx, ws, rfl, hdx, rs⟩
              · rw [e0] at el; cases el
              · obtain ⟨u, e1, r1⟩ := lookup_repS rs el
                have two : [V.str (kTag x.cls k.k1 k.k2 k.k3 k.s1 k.s2 k.s3 k.s4), u].length ≤ sizeLine := by show 2 ≤ sizeLine; rw [sizeLine_eq]; omega
                refine ⟨dx, ws, u, rfl, hdx, e1, two, fun z hz => ?_⟩
                have ex2 := Ext.new (o := .tup [.str (kTag x.cls k.k1 k.k2 k.k3 k.s1 k.s2 k.s3 k.s4), u]) ex.wf hz
                refine p (.ref z) _ μ' ex2 ?_
                simp only [rD, Rep]
                exact ⟨z, [.str _, u], rfl, Reps.cons (by simp only [Rep]) (Reps.one (Rep.tr ex2.tr _ _ r1)), two, .inl (Fz.new ex.wf hz)⟩
        · rw [← ecs] at hb
          rw [if_neg (by rw [hb]; exact Bool.false_ne_true)] at p
          rw [eK]
          refine kk _ σ' H' μ' Ω1 (List.replicate Ng.length none) x d hl ⟨ex.wf, env_none (by rw [hl, eN])⟩ xr ?_
          generalize handle ft x (List.replicate Ng.length none) Ω1 h.hs = rr at p
          cases rr with
          | bad => exact p
          | ex _ _ _ => exact False.elim p
          | ok fl Ω2 =>
            cases fl with
            | nx ρ => exact fun σ2 H2 μ2 ex2 re => fin_postK ⟨ex2.wf, re⟩ (Post.ext ex2 p)
            | rt dv => exact p
            | bk _ => exact False.elim p
            | ct _ => exact False.elim p
      · rw [if_neg hx] at p; exact False.elim p
  have st0 : At X.K (L2.start Ng [.ref f]) H μ Ω (List.replicate Ng.length none) := ⟨wf, env_none (by unfold L2.start; simp; omega)⟩
  have z0 : (L2.start Ng [V.ref f])[0]? = some (some (.ref f)) := rfl
  generalize hpre : h.pre = pr at pre core
  cases pre with
  | none => exact ⟨_, try_, core _ z0 st0⟩
  | some hy hl hi =>
    refine ⟨_, pss_cons (ps_set (X := Z) (by rw [eN]; exact hN) (by rw [eN]; exact hy) (.inl (vis hl)) pe_non rfl (.inr (vis hl))) try_, ?_⟩
    refine core _ ?_ ⟨wf, st0.env.set _ (by simp only [Rep])⟩
    rw [List.getElem?_set_ne (by omega)]
    exact z0
end Rf
end
section
namespace Rf
open PySem L2
theorem gss_imp {X : Cx} {st : List Stmt} {t t' : TGn} (h : GSs X st t) (k : ∀ D ys σ H, t' D ys σ H → t D ys σ H) : GSs X st t' := ⟨fun A S ip R n ys s₀ c fs K J gd lv s σ H D g hn kk hI ht => h.run A S ip R n ys s₀ c fs K J gd lv s σ H D g hn kk hI (k _ _ _ _ ht)⟩
theorem PostG.ext {K : Frg} {H H' : Hp} {μ μ' : Mu} {Ω Ω' : Sto} {r : R (Env × List D)} {D : GEnds} (e : Ext K H μ Ω H' μ' Ω') (p : PostG K H μ Ω r D) : PostG K H' μ' Ω' r D := by
  cases r with
  | ok f Ω2 => exact fun σ2 H2 μ2 vs e2 q r => p σ2 H2 μ2 vs (e.trans e2) q r
  | ex x Ω2 => exact p
  | bad => exact p
theorem gi_nil {X : Cx} {ft : FT} : GSs X [] (TYv X.K ft .nil) := gss_imp gss_nil fun D ys σ H ⟨μ, Ω, ρ, ds, a, r, p⟩ => p σ H μ ys (Ext.refl a.wf) a.env r
theorem gi_pl {X : Cx} {W : WX} {ft : FT} {s : S} {r : GL} {st : Stmt} {ts : List Stmt} (hs : PS X st (TSv X.K W ft s)) (hr : GSs X ts (TYv X.K ft r)) : GSs X (st :: ts) (TYv X.K ft (.pl s r)) := by
  refine gss_imp (gss_cons (gs_ps hs) hr) fun D ys σ H ⟨μ, Ω, ρ, ds, a, rr, p⟩ => ?_
  refine ⟨μ, Ω, ρ, a, ?_⟩
  have p : PostG X.K H μ Ω (match exS ft s ρ Ω with | .ok (.nx ρ') Ω' => exG ft r ρ' Ω' ds | _ => .bad) D := by rw [exG] at p; exact p
  cases e : exS ft s ρ Ω with
  | bad => rw [e] at p; exact False.elim p
  | ex x ρ1 Ω1 => rw [e] at p; exact False.elim p
  | ok f Ω1 =>
    rw [e] at p
    cases f with
    | nx ρ1 => exact fun σ1 H1 μ1 ex q => ⟨μ1, Ω1, ρ1, ds, ⟨ex.wf, q⟩, Reps.tr ex.tr _ _ rr, PostG.ext ex p⟩
    | rt d => exact False.elim p
    | bk ρ1 => exact False.elim p
    | ct ρ1 => exact False.elim p
theorem gi_yd {X : Cx} {W : WX} {ft : FT} {e : E} {r : GL} {y : Expr} {ts : List Stmt} {yp pos : Pos} (hco : X.env.scope.isCoroutine = false) (hi : interactive X.env = false) (he : PE X y (TEv X.K W ft e)) (hr : GSs X ts (TYv X.K ft r)) : GSs X (.Expr (.Yield (some y) yp) pos :: ts) (TYv X.K ft (.yd e r)) := by
  refine gss_imp (gss_cons (gs_yield he hco hi) hr) fun D ys σ H ⟨μ, Ω, ρ, ds, a, rr, p⟩ => ?_
  have p : PostG X.K H μ Ω ((evE ft e ρ Ω).bind fun d Ω => if ds.length < big then exG ft r ρ Ω (ds ++ [d]) else .bad) D := by rw [exG] at p; exact p
  cases q : evE ft e ρ Ω with
  | bad => rw [q] at p; exact False.elim p
  | ex x Ω1 => rw [q] at p; exact False.elim p
  | ok d Ω1 =>
    rw [q] at p
    have p : PostG X.K H μ Ω (if ds.length < big then exG ft r ρ Ω1 (ds ++ [d]) else .bad) D := p
    by_cases hl : ds.length < big
    · rw [if_pos hl] at p
      refine ⟨by rw [rr.length, ← big_eq]; exact hl, μ, Ω, ρ, a, ?_⟩
      rw [q]
      intro v H1 μ1 ex rv
      exact ⟨μ1, Ω1, ρ, ds ++ [d], a.ext ex, (Reps.tr ex.tr _ _ rr).append (Reps.one rv), PostG.ext ex p⟩
    · rw [if_neg hl] at p
      exact False.elim p
theorem gi_wh {X : Cx} {W : WX} {ft : FT} {q : E} {b r : GL} {x : Expr} {body ts : List Stmt} {pos : Pos} (hp : PassesOwn (model X.prog X.w) X.A X.env X.xe) (hc : PT X x (TTv X.K W ft q)) (hb : GSs X body (TYv X.K ft b)) (hr : GSs X ts (TYv X.K ft r)) : GSs X (.While x body [] pos :: ts) (TYv X.K ft (.wh q b r)) := by
  refine gss_imp (gss_cons (gs_while hp hc hb) hr) fun D ys σ H ⟨μ, Ω, ρ, ds, a, rr, p⟩ => ?_
  rw [exG] at p
  refine ⟨fun m ys σ H => ∃ μ Ω ρ ds, At X.K σ H μ Ω ρ ∧ Reps X.K (Fz H μ Ω) μ Ω.length ds ys ∧ PostG X.K H μ Ω ((whG (fun ρ Ω => evT ft q ρ Ω) (fun ρ Ω ys => exG ft b ρ Ω ys) m ρ Ω ds).bind fun p Ω => exG ft r p.1 Ω p.2) D, ⟨fuel, μ, Ω, ρ, ds, a, rr, p⟩, ?_⟩
  clear a rr p
  rintro m ys σ H ⟨μ, Ω, ρ, ds, a, rr, p⟩
  cases m with
  | zero => exact False.elim p
  | succ m =>
    refine ⟨μ, Ω, ρ, a, ?_⟩
    have p : PostG X.K H μ Ω (((evT ft q ρ Ω).bind fun t Ω => if t then (exG ft b ρ Ω ds).bind fun p Ω => whG (fun ρ Ω => evT ft q ρ Ω) (fun ρ Ω ys => exG ft b ρ Ω ys) m p.1 Ω p.2 else .ok (ρ, ds) Ω).bind fun p Ω => exG ft r p.1 Ω p.2) D := p
    cases e : evT ft q ρ Ω with
    | bad => rw [e] at p; exact False.elim p
    | ex z Ω1 => rw [e] at p; exact False.elim p
    | ok t Ω1 =>
      rw [e] at p
      intro t' H1 μ1 ex et
      have et : t = t' := et
      subst et
      cases t with
      | false =>
        rw [if_neg Bool.false_ne_true]
        have p : PostG X.K H μ Ω (exG ft r ρ Ω1 ds) D := p
        exact ⟨μ1, Ω1, ρ, ds, a.ext ex, Reps.tr ex.tr _ _ rr, PostG.ext ex p⟩
      | true =>
        rw [if_pos rfl]
        have p : PostG X.K H μ Ω (((exG ft b ρ Ω1 ds).bind fun p Ω => whG (fun ρ Ω => evT ft q ρ Ω) (fun ρ Ω ys => exG ft b ρ Ω ys) m p.1 Ω p.2).bind fun p Ω => exG ft r p.1 Ω p.2) D := p
        refine ⟨_, fun ys' σ' H' h => ⟨m, Nat.lt_succ_self m, h⟩, μ1, Ω1, ρ, ds, a.ext ex, Reps.tr ex.tr _ _ rr, ?_⟩
        have p := PostG.ext ex p
        cases e2 : exG ft b ρ Ω1 ds with
        | bad => rw [e2] at p; exact False.elim p
        | ex z Ω2 => rw [e2] at p; exact False.elim p
        | ok w Ω2 =>
          rw [e2] at p
          intro σ2 H2 μ2 vs ex2 q2 r2
          exact ⟨μ2, Ω2, w.1, w.2, ⟨ex2.wf, q2⟩, r2, PostG.ext ex2 p⟩
theorem sGL {ft : FT} {T : Tab} : ∀ (g : GL) {X : Cx} {W : WX} {c : Sc} (o : Ok X W ft T c) (st : Stk X) (hco : X.env.scope.isCoroutine = false) (hi : interactive X.env = false) (x : List Stmt), chGL T c g x = true → GSs X x (TYv X.K ft g)
  | .nil, X, W, c, o, st, hco, hi, x, h => by
    cases x with
    | nil => exact gi_nil
    | cons _ _ => exact noF h
  | .pl s r, X, W, c, o, st, hco, hi, x, h => by
    cases x with
    | nil => exact noF h
    | cons x xs =>
      have h : (chS T c s x && chGL T c r xs) = true := by rw [chGL] at h; exact h
      have h := pair_and h
      exact gi_pl (sS s o st x h.1) (sGL r o st hco hi xs h.2)
  | .yd e r, X, W, c, o, st, hco, hi, x, h => by
    cases x with
    | nil => exact noF h
    | cons x xs =>
      cases x with
      | Expr v pos =>
        cases v with
        | Yield z yp =>
          cases z with
          | none => exact noF h
          | some y =>
            have h : (chE T c false e y && chGL T c r xs) = true := h
            have h := pair_and h
            exact gi_yd hco hi (sE e o false y h.1).e (sGL r o st hco hi xs h.2)
        | _ => exact noF h
      | _ => exact noF h
  | .wh q b r, X, W, c, o, st, hco, hi, x, h => by
    cases x with
    | nil => exact noF h
    | cons x xs =>
      cases x with
      | While y body els p =>
        cases els with
        | nil =>
          have h : (chE T c true q y && chGL T c b body && chGL T c r xs) = true := h
          simp only [Bool.and_eq_true] at h
          obtain ⟨⟨h1, h2⟩, h3⟩ := h
          exact gi_wh o.own (sE q o true y h1).t (sGL b o st hco hi body h2) (sGL r o st hco hi xs h3)
        | cons _ _ => exact noF h
      | _ => exact noF h
end Rf
end
section
namespace Rf
open PySem L2
theorem Law.fn_eq (L : Law) (d : Nat) {q : Str} {df : Df} (h : L.find q = some df) : (L.ft d).fn q = some (L.g d df) := by
  cases d with
  | zero => show (match L.find q with | some _ => _ | none => _) = _; rw [h]; rfl
  | succ d => show (match L.find q with | some df => _ | none => _) = _; rw [h]; rfl
theorem Law.fnG_eq (L : Law) (d : Nat) {q : Str} {gf : Gf} (h0 : L.find q = none) (h : L.findG q = some gf) : (L.ft d).fn q = some (L.gG d gf) := by
  cases d with
  | zero => show (match L.find q with | some _ => _ | none => (L.findG q).map _) = _; rw [h0, h]; rfl
  | succ d => show (match L.find q with | some df => _ | none => (L.findG q).map _) = _; rw [h0, h]; rfl
theorem Law.gG_is (L : Law) (d : Nat) (gf : Gf) (ds : List D) (Ω : Sto) : GenR (L.gG d gf ds Ω) := by
  cases d with
  | zero => exact .inr rfl
  | succ d =>
    show GenR (runG _ _ _ _ _ _)
    unfold runG
    split
    · split
      · split
        · rename_i h
          exact .inl ⟨_, _, rfl, h⟩
        · exact .inr rfl
      · exact .inr rfl
    · exact .inr rfl
theorem Law.dfl_eq (L : Law) (d : Nat) : (L.ft d).dfl = L.dflOf := by cases d <;> rfl
theorem Law.con_eq (L : Law) (d : Nat) : (L.ft d).con = L.con := by cases d <;> rfl
theorem Law.flds_eq (L : Law) (d : Nat) : (L.ft d).flds = L.flds := by cases d <;> rfl
theorem Law.cls_eq (L : Law) (d : Nat) : (L.ft d).cls = L.cls := by cases d <;> rfl
theorem Law.xf_eq (L : Law) (d : Nat) : (L.ft d).xf = L.xfO := by cases d <;> rfl
theorem Law.x0_eq (L : Law) (d : Nat) : (L.ft d).x0 = L.T.x0 := by cases d <;> rfl
theorem Law.its_eq (L : Law) (d : Nat) : (L.ft d).its = L.itsF := by cases d <;> rfl
theorem Law.dflOf_eq (L : Law) {q : Str} {df : Df} (h : L.find q = some df) : L.dflOf q = df.dfl := by
  unfold Law.dflOf
  rw [h]
theorem scopeB_ok {N ps : List Str} {sc : Scope} (h : scopeB N ps sc = true) : FnScope N ps sc := by
  unfold scopeB at h
  simp only [Bool.and_eq_true, decide_eq_true_eq, List.all_eq_true, Bool.or_eq_true] at h
  obtain ⟨⟨⟨⟨⟨⟨h1, h2⟩, h3⟩, h4⟩, h5⟩, h6⟩, h7⟩ := h
  exact ⟨h1, by simpa using h2, by simpa using h3, h4, h5, h6, h7⟩
theorem scopeGB_ok {N ps : List Str} {sc : Scope} (h : scopeGB N ps sc = true) : GScope N ps sc := by
  unfold scopeGB at h
  simp only [Bool.and_eq_true, decide_eq_true_eq, List.all_eq_true, Bool.or_eq_true] at h
  obtain ⟨⟨⟨⟨⟨⟨h1, h2⟩, h3⟩, h4⟩, h5⟩, h6⟩, h7⟩ := h
  exact ⟨h1, by simpa using h2, h3, h4, h5, h6, h7⟩
theorem isAsk_ok {a : Str} {e : Expr} (h : isAsk a e = true) : ∃ p q, e = .Call (.Name a p) [] [] q := by
  unfold isAsk at h
  split at h
  · have h := of_decide_eq_true h
    subst h
    exact ⟨_, _, rfl⟩
  · cases h
theorem isStr_ok {s : Str} {e : Expr} (h : isStr s e = true) : ∃ j p, e = .Constant (.str s) j p := by
  unfold isStr at h
  split at h
  · split at h
    · have h := of_decide_eq_true h
      subst h
      exact ⟨_, _, rfl⟩
    · cases h
  · cases h
theorem chPre_ok {c : Sc} {i : Option Nat} {b r : List Stmt} (h : chPre c i b = some r) : ∃ bp, b = bp ++ r ∧ PreOk c.N c.sc i bp := by
  unfold chPre at h
  split at h
  · cases h
    exact ⟨[], rfl, .none⟩
  · split at h
    · split at h
      · rename_i hh
        cases h
        simp only [Bool.and_eq_true, decide_eq_true_eq] at hh
        exact ⟨[_], rfl, .some hh.1.1 hh.1.2 hh.2⟩
      · cases h
    · cases h
  · cases h
theorem chFm_ok {c : Sc} {a : Str} {f : Fm} {st : Stmt} (h : chFm c a f st = true) : FmOk a c.N c.sc f st ∧ ∀ j s, f = .set j s → 0 < j := by
  unfold chFm at h
  split at h
  · obtain ⟨p, q, rfl⟩ := isAsk_ok h
    exact ⟨.expr, fun j s z => by cases z⟩
  · have h := pair_and h
    obtain ⟨p, q, rfl⟩ := isAsk_ok h.2
    obtain ⟨j, r, rfl⟩ := isStr_ok h.1
    exact ⟨.ret, fun j s z => by cases z⟩
  · simp only [Bool.and_eq_true, decide_eq_true_eq] at h
    obtain ⟨⟨⟨⟨h1, h2⟩, h3⟩, h4⟩, h5⟩ := h
    obtain ⟨p, q, rfl⟩ := isAsk_ok h2
    obtain ⟨j, r, rfl⟩ := isStr_ok h1
    exact ⟨.set h3 h4, fun j s z => by cases z; exact h5⟩
  · cases h
theorem isVarE_ok {y : Str} {e : Expr} (h : isVarE y e = true) : ∃ p, e = .Name y p := by
  unfold isVarE at h
  split at h
  · have h := of_decide_eq_true h
    subst h
    exact ⟨_, rfl⟩
  · cases h
theorem isNon_ok {e : Expr} (h : isNon e = true) : ∃ k p, e = .Constant .none k p := by
  unfold isNon at h
  split at h
  · split at h
    · exact ⟨_, _, rfl⟩
    · cases h
  · cases h
theorem isTagF_ok {s y f : Str} {e : Expr} (h : isTagF s y f e = true) : ∃ j k p1 p2 p3 p4, e = .Tuple [.Constant (.str s) j p1, .Attribute (.Name y p2) f p3] k p4 := by
  unfold isTagF at h
  split at h
  · simp only [Bool.and_eq_true, decide_eq_true_eq] at h
    obtain ⟨⟨h1, h2⟩, rfl⟩ := h
    obtain ⟨j, p, rfl⟩ := isStr_ok h1
    obtain ⟨q, rfl⟩ := isVarE_ok h2
    exact ⟨_, _, _, _, _, _, rfl⟩
  · cases h
theorem isIs_ok {y k : Str} {e : Expr} (h : isIs y k e = true) : ∃ p1 p2 p3 p4, e = .Call (.Name "isinstance" p1) [.Name y p2, .Name k p3] [] p4 := by
  unfold isIs at h
  split at h
  · simp only [Bool.and_eq_true, decide_eq_true_eq] at h
    obtain ⟨⟨rfl, h1⟩, h2⟩ := h
    obtain ⟨p, rfl⟩ := isVarE_ok h1
    obtain ⟨q, rfl⟩ := isVarE_ok h2
    exact ⟨_, _, _, _, rfl⟩
  · cases h
theorem isExprF_ok {f : Fm} (h : isExprF f = true) : f = .expr := by
  unfold isExprF at h
  split at h
  · rfl
  · cases h
theorem chKp_ok {T : Tab} {c : Sc} {k : KeepE} {hk : ExceptHandler} {rest : List Stmt} (h : chKp T c k hk rest = true) :
    KpT c.N c.sc k hk rest ∧ (∀ q ∈ [k.k1, k.k2, k.k3] ++ k.cs, c.gl q = true ∧ (T.xc.lookup q).isSome = true) ∧ (∀ q ∈ k.cs, fldB T q k.f = true) ∧ c.gl "isinstance" = true ∧ T.bts.contains "isinstance" = true := by
  unfold chKp at h
  split at h
  · rename_i y ey
    simp only [Bool.and_eq_true] at h
    obtain ⟨⟨⟨⟨h1, h2⟩, h3⟩, h4⟩, h5⟩ := h
    have g := fun q hq => List.all_eq_true.mp h2 q hq
    have g2 : ∀ q ∈ [k.k1, k.k2, k.k3] ++ k.cs, nodbg q = true ∧ c.gl q = true ∧ (T.xc.lookup q).isSome = true := fun q hq => by
      have := g q hq
      simp only [Bool.and_eq_true] at this
      exact ⟨this.1.1, this.1.2, this.2⟩
    refine ⟨?_, fun q hq => ⟨(g2 q hq).2.1, (g2 q hq).2.2⟩, fun q hq => List.all_eq_true.mp h3 q hq, h4, h5⟩
    unfold chKpH at ey
    split at ey
    · rename_i a1 a2 a3 a4 kk tpos e y' py v pa pos1
      split at ey
      · rename_i b1 b2 b3 b4 ecs
        split at ey
        · rename_i hh
          have ey : y' = y := Option.some.inj ey
          subst ey
          simp only [Bool.and_eq_true, decide_eq_true_eq, Bool.not_eq_true'] at hh
          obtain ⟨⟨⟨⟨⟨⟨⟨⟨⟨⟨⟨⟨⟨d1, d2⟩, d3⟩, d4⟩, d5⟩, d6⟩, d7⟩, d8⟩, d9⟩, d10⟩, d11⟩, d12⟩, d13⟩, d14⟩ := hh
          obtain ⟨p1, rfl⟩ := isVarE_ok d1
          obtain ⟨p2, rfl⟩ := isVarE_ok d2
          obtain ⟨p3, rfl⟩ := isVarE_ok d3
          obtain ⟨p4, rfl⟩ := isVarE_ok d4
          obtain ⟨pn, rfl⟩ := isVarE_ok d5
          unfold chKpR at h1
          split at h1
          · rename_i x n cp r0 rp0 ip0 t1 r1 rp1 ip1 t2 r2 rp2 ip2 t3 u3 u4 tp z gg ap tk tpp rp3
            simp only [Bool.and_eq_true, decide_eq_true_eq] at h1
            obtain ⟨⟨⟨⟨⟨⟨⟨⟨⟨⟨⟨m1, m2⟩, m3⟩, m4⟩, m5⟩, m6⟩, m7⟩, m8⟩, m9⟩, m10⟩, m11⟩, rfl⟩ := h1
            obtain ⟨q0, rfl⟩ := isVarE_ok m1
            obtain ⟨j1, q1, rfl⟩ := isNon_ok m2
            obtain ⟨j2, q2, rfl⟩ := isNon_ok m3
            obtain ⟨q3, q4, q5, q6, rfl⟩ := isIs_ok m4
            obtain ⟨j3, j4, q7, q8, q9, q10, rfl⟩ := isTagF_ok m5
            obtain ⟨q11, q12, q13, q14, rfl⟩ := isIs_ok m6
            obtain ⟨j5, j6, q15, q16, q17, q18, rfl⟩ := isTagF_ok m7
            obtain ⟨q19, q20, q21, q22, rfl⟩ := isIs_ok m8
            obtain ⟨j7, q23, rfl⟩ := isStr_ok m9
            obtain ⟨j8, q24, rfl⟩ := isStr_ok m10
            obtain ⟨q25, rfl⟩ := isVarE_ok m11
            exact ⟨b1, b2, b3, b4, y', e, p1, p2, p3, p4, tpos, py, pn, pa, pos1, kk, j1, j2, j3, j4, j5, j6, j7, j8, tk, fun i => [q0, q1, cp, q2, rp0, ip0, q3, q4, q5, q6, q7, q8, q9, q10, rp1, ip1, q11, q12, q13, q14, q15, q16, q17, q18, rp2, ip2, q19, q20, q21, q22, q23, q24, tp, q25, ap, tpp, rp3].getD i q0, ecs, d6, d7, d8, d9, d10, nodbg_ok d11, d13, nodbg_ok d12, d14, rfl,
              fun q hq => nodbg_ok (g2 q (by rw [ecs]; exact hq)).1, rfl⟩
          · cases h1
        · cases ey
      · cases ey
    · cases ey
  · cases h
theorem bodyB_ok {b : List Stmt} {f x g : Str} (h : bodyB b f x g = true) : ∃ p1 p2 p3 p4 p5, b = [.Return (some (.Call (.Name f p1) [.Attribute (.Name x p2) g p3] [] p4)) p5] := by
  unfold bodyB at h
  split at h
  · simp only [Bool.and_eq_true, decide_eq_true_eq] at h
    obtain ⟨⟨rfl, rfl⟩, rfl⟩ := h
    exact ⟨_, _, _, _, _, rfl⟩
  · cases h
theorem ItFact.ins {P : Program} {w : World} {K : Frg} {mg : Str → Option Value} {X : Cx} {i : ItDef} (F : ItFact X.K X.mg i) (hr : Room 4 X.A) : ∃ n fi fl fdI fdL psI psL, InsIt X (He.ga X.K i.k) i.g n fi fl fdI fdL psI psL := by
  obtain ⟨fdI, FI, bI⟩ := F.FI
  obtain ⟨fdL, FL, bL⟩ := F.FL
  have h := F.ok
  unfold ItDef.ok at h
  simp only [Bool.and_eq_true, decide_eq_true_eq] at h
  obtain ⟨⟨⟨h1, h2⟩, _⟩, _⟩ := h
  unfold defB at h1 h2
  simp only [Bool.and_eq_true, decide_eq_true_eq] at h1 h2
  obtain ⟨⟨⟨⟨⟨s1, b1⟩, g1⟩, _⟩, d1⟩, c1⟩ := h1
  obtain ⟨⟨⟨⟨⟨s2, b2⟩, g2⟩, _⟩, d2⟩, c2⟩ := h2
  obtain ⟨p1, p2, p3, p4, p5, e1⟩ := bodyB_ok b1
  obtain ⟨q1, q2, q3, q4, q5, e2⟩ := bodyB_ok b2
  rw [e1] at FI
  rw [e2] at FL
  have F1 := fun b => iter_def (P := X.prog) (w := X.w) (mg := X.mg) (base := b) (k := 0) FI (scopeB_ok s1) g1 F.mi (by simpa using d1) (by simpa using c1) F.cl F.na
  have F2 := len_def (P := X.prog) (w := X.w) (mg := X.mg) (base := X.base) (k := 0) FL (scopeB_ok s2) g2 F.ml (by simpa using d2) (by simpa using c2) F.cl F.na
  exact ⟨1, _, _, _, _, _, _, F.it, F.itF, F.ln, F.lnF, F1, bI, F2, bL, hr⟩
theorem find_mem {L : Law} {q : Str} {df : Df} (h : L.find q = some df) : df ∈ L.defs := List.mem_of_find?_eq_some h
section
variable {P : Program} {w : World} {K : Frg} {mg : Str → Option Value} {base : Heap}
theorem start_env {G : Hp} {μ : Mu} {n : Nat} {ds : List D} {vs : List V} {N : List Str} (r : Reps K G μ n ds vs) : REnv K G μ n (ds.map some ++ List.replicate (N.length - ds.length) none) (L2.start N vs) := by
  unfold L2.start
  refine ⟨by simp [r.length], fun i d e => ?_⟩
  by_cases hi : i < ds.length
  · rw [List.getElem?_append_left (by simpa using hi), List.getElem?_map] at e
    cases e1 : ds[i]? with
    | none => rw [e1] at e; cases e
    | some d' =>
      rw [e1] at e
      cases e
      obtain ⟨v, e2, rv⟩ := r.get e1
      refine ⟨v, ?_, rv⟩
      have hv : i < vs.length := by rw [r.length]; exact hi
      rw [List.getElem?_append_left (by simpa using hv), List.getElem?_map, e2]
      rfl
  · rw [List.getElem?_append_right (by simpa using hi), List.getElem?_replicate] at e
    split at e <;> cases e
theorem mkOk {L : Law} {X : Cx} {W : WX} {m : Nat} {c : Sc} (F : Facts X.prog L X.K X.mg) (hr : Room (4 * m + 7) X.A)
    (G : ∀ df', df' ∈ L.defs → ∃ fd', FnOk X.prog X.w X.K X.mg X.base (L2.CX X.prog X.w) (4 * m + 4) (df'.ad X.K) fd' df'.ps (spD X.K (L.g m df')) ∧ (∀ j, j ≤ df'.dfl.length → Dfl X.K fd' df'.ps df'.dfl j) ∧ PySem.W.keepIn X.K (.ref (df'.ad X.K)) = true)
    (GG : ∀ gf, gf ∈ L.gens → ∃ fd', GFn X.prog X.w X.K X.mg X.base (4 * m + 4) (He.fAd X.K gf.dd.at_) fd' gf.ps (spG X.K (L.gG m gf)) ∧ Binds X.K fd' gf.ps [] ∧ PySem.W.keepIn X.K (.ref (He.fAd X.K gf.dd.at_)) = true)
    (N : X.N = c.N) (nd : X.N.Nodup) (sc : X.env.scope = c.sc) (fn : ∀ x, X.fn x = c.fn x) (kind : c.sc.kind = .function) (calm : X.calm = true) (tk : Takes X W) (own : PassesOwn (model X.prog X.w) X.A X.env X.xe)
    (lamc : c.lam = true → ∀ f, L.T.hds.contains f = true → ∀ (p lpos pos : Pos) (ps : Arguments) (b : Expr) (s : Scope) (e : E), lamB c ps s = true → c.gl f = true → nodbg f = true → chE L.T (lamSc c s) false e b = true → PE X (.Call (.Name f p) [.Lambda ps b s lpos] [] pos) (TEv X.K W (L.ft m) (.lamc f e))) :
    Ok X W (L.ft m) L.T c := by
  have fk : ∀ df', df' ∈ L.defs → FnK X df'.dfl (df'.ad X.K) (L.g m df') := fun df' hm' => by
    obtain ⟨fd', g1, g2, g3⟩ := G df' hm'
    exact ⟨⟨4 * m + 4, fd', df'.ps, g1, hr.mono (by omega), g2⟩, g3⟩
  refine ⟨N, nd, sc, fn, kind, calm, tk, own, hr.units, by rw [L.dfl_eq, F.dfl], F.bts, ?_, ?_, ?_, ?_, ?_, F.lst, F.clss, ?_, ?_, ?_, ?_, ?_, F.xmt, lamc, ?_, ?_, fun q h => ⟨by rw [L.x0_eq]; exact h, F.x0s q h⟩, fun q k h => ?_⟩
  · rw [L.con_eq]; exact F.cons
  · intro f hf
    obtain ⟨df', h1, h2⟩ := F.fns f hf
    refine ⟨_, L.g m df', L.fn_eq m h1, ?_, h2⟩
    rw [L.dfl_eq, L.dflOf_eq h1]
    exact fk df' (find_mem h1)
  · intro f q hf h0
    obtain ⟨df', h1, h2⟩ := F.als f q hf h0
    refine ⟨_, L.g m df', L.fn_eq m h1, ?_, h2⟩
    rw [L.dfl_eq, L.dflOf_eq h1]
    exact fk df' (find_mem h1)
  · intro k q hf
    obtain ⟨df', h1, h2, h3⟩ := F.mks k q hf
    refine ⟨_, L.g m df', L.fn_eq m h1, ?_, h2, h3⟩
    rw [L.dfl_eq, L.dflOf_eq h1]
    exact fk df' (find_mem h1)
  · intro k m' q hf
    obtain ⟨df', h1, h2, h3⟩ := F.mths k m' q hf
    refine ⟨_, L.g m df', L.fn_eq m h1, ?_, h2, h3⟩
    rw [L.dfl_eq, L.dflOf_eq h1]
    exact fk df' (find_mem h1)
  · rw [L.flds_eq]; exact F.fls
  · rw [L.cls_eq]; exact F.isi
  · intro k hk
    obtain ⟨i, h1, h2⟩ := F.itc k hk
    obtain ⟨n, fi, fl, fdI, fdL, psI, psL, G⟩ := ItFact.ins (P := X.prog) (w := X.w) (K := X.K) (mg := X.mg) (X := X) h2 (hr.mono (by omega))
    have ek : i.k = k := by simpa using List.find?_some h1
    refine ⟨i.g, n, fi, fl, fdI, fdL, psI, psL, ?_, by rw [← ek]; exact G⟩
    rw [L.its_eq]
    unfold Law.itsF
    rw [h1]
    rfl
  · rw [L.xf_eq, ← F.xfe]
    rfl
  · intro q fs h
    obtain ⟨g, fI, cc, c, qual, params, body, scope, e1, XI, e2, e3, e4⟩ := F.xcs q fs h
    obtain ⟨fd, F1, B1, KW⟩ := xinit_ok (CX := L2.CX X.prog X.w) (w := X.w) (mg := X.mg) (base := X.base) (k := 0) XI F.sup
    exact ⟨⟨g, fI, 1, fd, e1, XI.T, XI.iC, XI.tI, F1, hr.mono (by omega), B1, KW⟩, e2, e3, e4⟩
  · intro f hf
    obtain ⟨gf, h0, h1, h2, h3⟩ := F.gdn f hf
    obtain ⟨fd', g1, g2, g3⟩ := GG gf h2
    exact ⟨_, L.gG m gf, L.fnG_eq m h0 h1, ⟨⟨4 * m + 4, fd', gf.ps, g1, hr, g2⟩, g3, L.gG_is m gf⟩, h3⟩
  · intro k m' q hf
    obtain ⟨df', h1, h2, h3⟩ := F.sts k m' q hf
    refine ⟨_, L.g m df', L.fn_eq m h1, ?_, h2, h3⟩
    rw [L.dfl_eq, L.dflOf_eq h1]
    exact fk df' (find_mem h1)
  · obtain ⟨h1, h2, h3⟩ := F.xis q k h
    refine ⟨fun p hp => h1 p ?_, h2, h3⟩
    rw [L.xf_eq, L.x0_eq] at hp
    rw [← F.xfe]
    exact hp
theorem defs_ok {L : Law} (F : Facts P L K mg) (hTB : ∀ p ∈ csOf K, LamX.TabB base mg p.1 p.2.1) (C : ∀ df, df ∈ L.defs → df.ok L.T = true) : ∀ (n d : Nat), d ≤ n → (∀ (df : Df), df ∈ L.defs →
    ∃ fd, FunD K df.dd.name df.dd.qual df.dd.params df.dd.body df.dd.scope (df.dd.dvs K) (df.dd.kws K) (df.ad K) fd ∧ FnOk P w K mg base (L2.CX P w) (4 * d + 4) (df.ad K) fd df.ps (spD K (L.g d df)) ∧ (∀ j, j ≤ df.dfl.length → Dfl K fd df.ps df.dfl j) ∧ PySem.W.keepIn K (.ref (df.ad K)) = true) ∧ ∀ (gf : Gf), gf ∈ L.gens → ∃ fd, GFn P w K mg base (4 * d + 4) (He.fAd K gf.dd.at_) fd gf.ps (spG K (L.gG d gf)) ∧ Binds K fd gf.ps [] ∧ PySem.W.keepIn K (.ref (He.fAd K gf.dd.at_)) = true := by
  have gB : ∀ (gf : Gf), gf ∈ L.gens → ∃ fd, FunD K gf.dd.name gf.dd.qual gf.dd.params gf.dd.body gf.dd.scope [] (gf.dd.kws K) (He.fAd K gf.dd.at_) fd ∧ Binds K fd gf.ps [] ∧ scopeGB gf.N gf.ps gf.dd.scope = true ∧ chGL L.T ⟨gf.N, gf.dd.scope, fun _ => true, false⟩ gf.gl gf.dd.body = true := fun gf hg => by
    obtain ⟨ok, fd, F1⟩ := F.gdf gf hg
    unfold Gf.ok at ok
    simp only [Bool.and_eq_true, List.isEmpty_iff] at ok
    obtain ⟨⟨⟨k1, k2⟩, k3⟩, k4⟩ := ok
    have e0 : gf.dd.dvs K = [] := by unfold He.DefD.dvs; rw [k4]; rfl
    rw [e0] at F1
    have b := plainB_ok k3
    exact ⟨fd, F1, F1.bindsN fun kV doc pm an cdv ct us hl => bind_plain b.1 b.2.1 b.2.2.1 b.2.2.2.1 rfl b.2.2.2.2.1 b.2.2.2.2.2 hl, k1, k2⟩
  intro n
  induction n with
  | zero =>
    intro d hd
    have e : d = 0 := by omega
    subst e
    refine ⟨fun df hm => ?_, fun gf hg => ?_⟩
    · obtain ⟨fd, f1, f2⟩ := F.defs df hm
      refine ⟨fd, f1, ⟨fun vs H Q E h => ?_, fun A outer s H args us vs Q E _ _ _ _ h => ?_⟩, f2, f1.kp⟩
      · obtain ⟨μ, Ω, ds, _, _, p⟩ := h
        exact False.elim p
      · obtain ⟨μ, Ω, ds, _, _, p⟩ := h
        exact False.elim p
    · obtain ⟨fd, f1, f2, _⟩ := gB gf hg
      refine ⟨fd, ⟨fun vs H Q E h => ?_, fun A outer s H args us vs Q E _ _ _ _ h => ?_⟩, f2, f1.kp⟩
      · obtain ⟨μ, Ω, ds, os, Ω', _, _, p, _⟩ := h
        cases p
      · obtain ⟨μ, Ω, ds, os, Ω', _, _, p, _⟩ := h
        cases p
  | succ n ih =>
    intro d hd
    by_cases hdn : d ≤ n
    · exact ih d hdn
    have e : d = n + 1 := by omega
    subst e
    have GG : ∀ (m : Nat), m ≤ n → ∀ gf, gf ∈ L.gens → ∃ fd', GFn P w K mg base (4 * m + 4) (He.fAd K gf.dd.at_) fd' gf.ps (spG K (L.gG m gf)) ∧ Binds K fd' gf.ps [] ∧ PySem.W.keepIn K (.ref (He.fAd K gf.dd.at_)) = true := fun m hmn => (ih m hmn).2
    have G : ∀ (m : Nat), m ≤ n → ∀ df', df' ∈ L.defs → ∃ fd', FnOk P w K mg base (L2.CX P w) (4 * m + 4) (df'.ad K) fd' df'.ps (spD K (L.g m df')) ∧ (∀ j, j ≤ df'.dfl.length → Dfl K fd' df'.ps df'.dfl j) ∧ PySem.W.keepIn K (.ref (df'.ad K)) = true := fun m hmn df' hm' => by
      obtain ⟨fd', _, g1, g2, g3⟩ := (ih m hmn).1 df' hm'
      exact ⟨fd', g1, g2, g3⟩
    refine ⟨fun df hm => ?_, fun gf hg => ?_⟩
    rotate_left
    · obtain ⟨fd, f1, f2, k1, k2⟩ := gB gf hg
      have S := scopeGB_ok k1
      refine ⟨fd, ?_, f2, f1.kp⟩
      obtain ⟨oc, od, dV, kV, doc, pm, an, cdv, ct, osl, efd, lk, hcd, _, _⟩ := f1.ex
      subst efd
      refine gfn_of (k := 4 * n + 7) lk hcd S (fun vs H Q E h => ?_) (fun A outer s H vs Q E pn hr h => ?_)
      · obtain ⟨μ, Ω, ds, os, Ω', _, r, p, _⟩ := h
        have p : runG (L.ft n) gf.ps.length gf.N.length gf.gl ds Ω = .ok (.lst os) Ω' := p
        unfold runG at p
        by_cases e : ds.length = gf.ps.length
        · rw [r.length]; exact e
        · rw [if_neg e] at p; cases p
      · have o : Ok (gcxOf P w K mg base gf.N gf.dd.qual gf.dd.scope (He.fAd K gf.dd.at_) cdv A outer s H E pn) (fun c d _ H' => E c d H') (L.ft n) L.T ⟨gf.N, gf.dd.scope, fun _ => true, false⟩ :=
          mkOk F hr (G n (Nat.le_refl n)) (GG n (Nat.le_refl n)) rfl S.nd rfl (fun _ => rfl) S.kind rfl takes_gcx owns_gcx (fun z => by cases z)
        refine ⟨TYv K (L.ft n) gf.gl, sGL gf.gl o ⟨rfl, rfl⟩ S.co (show ((gf.dd.scope.kind == .module) && _) = false by rw [S.kind]; rfl) gf.dd.body k2, ?_⟩
        obtain ⟨μ, Ω, ds, os, Ω', wf, r, p, hb, q⟩ := h
        have p : runG (L.ft n) gf.ps.length gf.N.length gf.gl ds Ω = .ok (.lst os) Ω' := p
        unfold runG at p
        by_cases e : ds.length = gf.ps.length
        · rw [if_pos e] at p
          refine ⟨μ, Ω, _, [], ⟨wf, start_env r⟩, Reps.nil, ?_⟩
          generalize exG (L.ft n) gf.gl (ds.map some ++ List.replicate (gf.N.length - ds.length) none) Ω [] = rr at p
          cases rr with
          | bad => cases p
          | ex x Ω2 => cases p
          | ok w2 Ω2 =>
            have p : (if w2.2.length ≤ big then R.ok (D.lst w2.2) Ω2 else .bad) = .ok (.lst os) Ω' := p
            split at p
            · cases p
              exact fun σ' H' μ' vs ex _ r2 => q vs H' μ' ex r2
            · cases p
        · rw [if_neg e] at p; cases p
    obtain ⟨fd, f1, f2⟩ := F.defs df hm
    have hok := pair_and (C df hm)
    have S := scopeB_ok hok.1
    refine ⟨fd, f1, ?_, f2, f1.kp⟩
    obtain ⟨oc, od, dV, kV, doc, pm, an, cdv, ct, osl, efd, lk, hcd, _, _⟩ := f1.ex
    subst efd
    refine fn_of (k := 4 * n + 7) lk hcd S (fun vs H Q E h => ?_) (fun A outer s H vs Q E hr h => ?_)
    · obtain ⟨μ, Ω, ds, _, r, p⟩ := h
      have p : Post K (rD K) (fun c d _ H' => E c d H') [] H μ Ω (runD (L.ft n) df.ps.length df.N.length df.sl ds Ω) Q := p
      unfold runD at p
      by_cases e : ds.length = df.ps.length
      · rw [r.length]; exact e
      · rw [if_neg e] at p; exact False.elim p
    · have tk : Takes (cxOf (L2.CX P w) P w K mg base df.N df.dd.qual df.dd.scope (df.ad K) cdv A outer s H E) (fun c d _ H' => E c d H') := takes_of rfl rfl rfl rfl
      have o : Ok (cxOf (L2.CX P w) P w K mg base df.N df.dd.qual df.dd.scope (df.ad K) cdv A outer s H E) (fun c d _ H' => E c d H') (L.ft n) L.T ⟨df.N, df.dd.scope, fun _ => true, df.lam⟩ := by
        refine mkOk F hr (G n (Nat.le_refl n)) (GG n (Nat.le_refl n)) rfl S.nd rfl (fun _ => rfl) S.kind rfl tk (passes_of rfl) ?_
        intro hl f hf p lpos pos ps b sc e hlam hgl hdb hch
        obtain ⟨hf', q1, q2, q3, q4⟩ := F.hdn f hf
        subst q2
        cases n with
        | zero =>
          -- no call is left
          exact ⟨fun pins s' σ H' Q I hh => by
            obtain ⟨μ, Ω, ρ, _, p⟩ := hh
            rw [evE] at p
            exact False.elim p⟩
        | succ m =>
          obtain ⟨c, Pt, ec, hcs, huq⟩ := F.lms df hm hl oc od _ osl lk
          have ec : cdv = .ref c := ec
          obtain ⟨hok', fdh, FH⟩ := F.hdf hf' q3
          unfold Hf.ok at hok'
          simp only [Bool.and_eq_true, decide_eq_true_eq, Bool.not_eq_true', List.isEmpty_iff] at hok'
          obtain ⟨⟨⟨⟨⟨⟨⟨⟨k1, k2⟩, k3⟩, k4⟩, k5⟩, k6⟩, k7⟩, k8⟩, k9⟩ := hok'
          have SH := scopeB_ok k1
          have bplain := plainB_ok k7
          have bnd : Binds K fdh [hf'.a] [] := by
            have e0 : hf'.dd.dvs K = [] := by unfold He.DefD.dvs; rw [k8]; rfl
            rw [e0] at FH
            exact FH.bindsN fun kV doc pm an cdv ct us hl => bind_plain bplain.1 bplain.2.1 bplain.2.2.1 bplain.2.2.2.1 rfl bplain.2.2.2.2.1 bplain.2.2.2.2.2 hl
          obtain ⟨oc', od', dV', kV', doc', pm', an', cdv', ct', osl', efd', lk', hcd', _, _⟩ := FH.ex
          subst efd'
          have hpre := SH.pre
          have hN0 : hf'.N[0]? = some hf'.a := by
            cases eN : hf'.N with
            | nil => rw [eN] at hpre; cases hpre
            | cons x r => rw [eN] at hpre; cases hpre; rfl
          have vis : Vis hf'.dd.scope hf'.a := (SH.par _ (List.mem_cons_self ..)).elim .inl fun z => .inr (.inl z)
          unfold lamB at hlam
          simp only [Bool.and_eq_true, List.isEmpty_iff] at hlam
          obtain ⟨⟨⟨l1, l2⟩, l3⟩, l4⟩ := hlam
          have lp := plainB_ok l1
          have LS : LamX.LamS df.dd.scope sc := LamX.lamS_by l4
          have hdef : defaultsOf ps (PyProof.Rows.envOfC df.dd.qual df.dd.scope s.heap.objs.size (df.ad K) cdv) = ([], []) := by
            obtain ⟨_, _, _, _, kwd, _, dfs⟩ := ps
            dsimp only at l2 l3
            subst l2 l3
            rfl
          unfold chHf at k9
          split at k9
          · rename_i st h0 hds tpos post hpr
            simp only [Bool.and_eq_true] at k9
            obtain ⟨⟨k9, k10⟩, k11⟩ := k9
            obtain ⟨bp, eb, hbp⟩ := chPre_ok hpr
            obtain ⟨hfm, hfm0⟩ := chFm_ok k9
            have Z : ∀ (s2 : Shared) (H2 : Hp), Ok (cxOf C8.CX0 P w K mg base hf'.N hf'.q hf'.dd.scope (He.fAd K hf'.dd.at_) cdv' (A.deeper (PyProof.Rows.envOfC df.dd.qual df.dd.scope s.heap.objs.size (df.ad K) cdv)) (PyProof.Rows.envOfC df.dd.qual df.dd.scope s.heap.objs.size (df.ad K) cdv :: outer) s2 H2 C8.E0).nox (fun _ _ _ _ => False) (L.ft m) L.T hf'.sc := fun s2 H2 =>
              mkOk F ((hr.deeper _).mono (by omega)) (G m (by omega)) (GG m (by omega)) rfl SH.nd rfl (fun _ => rfl) SH.kind rfl LamX.takes0 PassesOwn.never (fun z => by cases z)
            have give : LamX.GivesTo (cxOf (L2.CX P w) P w K mg base df.N df.dd.qual df.dd.scope (df.ad K) cdv A outer s H E) hf'.N hf'.q hf'.dd.scope (He.fAd K hf'.dd.at_) cdv' hf'.dd.body hf'.a ((cxOf (L2.CX P w) P w K mg base df.N df.dd.qual df.dd.scope (df.ad K) cdv A outer s H E).env.qual ++ "<lambda>") (TTr K (L.ft m) hf'.N.length hf'.h) := by
              rw [eb]
              cases ekp : hf'.h.kp with
              | none =>
                rw [ekp] at k10
                exact lam_gives SH.nd hN0 SH.kind ekp hbp hfm hfm0 (fun _ s2 H2 => chHs_ok (Z s2 H2) k10) (fun _ s2 H2 => sSL _ (Z s2 H2) ⟨rfl, rfl⟩ _ k11)
              | some k =>
                rw [ekp] at k10
                have k10 : (isExprF hf'.h.fm && chKp L.T hf'.sc k h0 post && chHs L.T hf'.sc hf'.h.hs hds) = true := k10
                simp only [Bool.and_eq_true] at k10
                obtain ⟨⟨n1, n2⟩, n3⟩ := k10
                obtain ⟨kt, kg, kf, ki, kb⟩ := chKp_ok n2
                refine lam_givesK SH.nd hN0 SH.kind ekp (isExprF_ok n1) hbp hfm kt (fun _ s2 H2 => ?_) (fun _ s2 H2 e y pn py _ line => ?_) (fun _ s2 H2 => chHs_ok (Z s2 H2) n3) (fun _ s2 H2 => sSL _ (Z s2 H2) ⟨rfl, rfl⟩ _ k11)
                · have o := Z s2 H2
                  have exf : (L.ft m).xf = fun c => L.T.xc.lookup c := o.xf
                  have xcT : ∀ q, (L.T.xc.lookup q).isSome = true → XfC K (He.ga K q) ∧ mg q = some (.ref (He.ga K q)) := fun q hq => by
                    cases eq : L.T.xc.lookup q with
                    | none => rw [eq] at hq; cases hq
                    | some fs => obtain ⟨g, fI, cc, c, qual, params, body, scope, _, _, e2, e3, _⟩ := F.xcs q fs eq; exact ⟨e3, e2⟩
                  refine ⟨⟨fun c hc => ?_, fun c hc => ?_, fun c c' hc hc' => ?_⟩, fun c hc => ⟨?_, (fldB_ok o (kf c hc)).2⟩, ⟨?_, ?_, ?_⟩, fun c hc => ⟨o.gl (kg c hc).1, (xcT c (kg c hc).2).2⟩, o.gl ki, o.bts _ kb⟩
                  · rw [exf] at hc; exact (xcT c hc).1
                  · rw [exf] at hc; exact F.kpf hf' q3 (by rw [ekp]; rfl) c hc
                  · rw [exf] at hc hc'; exact F.xmt c c' hc hc'
                  · rw [exf]; exact (kg c (List.mem_append_right _ hc)).2
                  · rw [exf]; exact (kg _ (List.mem_append_left _ (by simp))).2
                  · rw [exf]; exact (kg _ (List.mem_append_left _ (by simp))).2
                  · rw [exf]; exact (kg _ (List.mem_append_left _ (by simp))).2
                · have sw := swW_ok (Z s2 H2) (.Name e pn) (.Name y py) line
                  have e0 : swW hf'.sc (.Name e pn) (.Name y py) = false := rfl
                  rw [e0] at sw
                  exact sw
            rw [k5, k6] at lk' bnd
            rw [k6] at hcd'
            refine s_lamc (ft' := L.ft m) (hd := hf'.h) (Ng := hf'.N) (k := 4 * m + 7) ?_ (show df.dd.scope.names.lookup hf'.q = some .globalImplicit from of_decide_eq_true (show decide (df.dd.scope.names.lookup hf'.q = some .globalImplicit) = true from hgl)) q4 FH.kp lk' hcd' bnd SH hN0 vis give (hTB _ hcs) ec (List.mem_map.mpr ⟨_, hcs, rfl⟩) huq (hr.mono (by omega)) LS hdef
              (fun q cl pm cv ctv => bind_plain (us := []) lp.1 lp.2.1 lp.2.2.1 lp.2.2.2.1 rfl lp.2.2.2.2.1 lp.2.2.2.2.2 rfl) (fun A2 outer2 s2 H2 E2 fl c2 hrk => ?_) (nodbg_ok hdb) k2 k3
            · show (L.findH hf'.q).map _ = _
              rw [q1]
              rfl
            · exact (sE e (mkOk (c := lamSc ⟨df.N, df.dd.scope, fun _ => true, df.lam⟩ sc) F hrk (G m (by omega)) (GG m (by omega)) rfl S.nd rfl (fun _ => rfl) LS.kind rfl (takes_of rfl rfl rfl rfl) (passes_of rfl) (fun z => by cases z)) false b hch).e
          · cases k9
      refine ⟨TLv K (fun c d _ H' => E c d H') (L.ft n) df.sl, sSL df.sl o ⟨rfl, rfl⟩ df.dd.body hok.2, ?_⟩
      obtain ⟨μ, Ω, ds, wf, r, p⟩ := h
      have p : Post K (rD K) (fun c d _ H' => E c d H') [] H μ Ω (runD (L.ft n) df.ps.length df.N.length df.sl ds Ω) Q := p
      unfold runD at p
      by_cases e : ds.length = df.ps.length
      · rw [if_pos e] at p
        refine ⟨μ, Ω, _, ⟨wf, start_env r⟩, ?_⟩
        generalize exL (L.ft n) df.sl (ds.map some ++ List.replicate (df.N.length - ds.length) none) Ω = rr at p
        cases rr with
        | bad => exact p
        | ex x ρ Ω' => exact fun σ' dd H' μ' ex _ q => p dd H' μ' ex q
        | ok f Ω' =>
          cases f with
          | nx ρ => exact fun σ' H' μ' ex _ => p .non H' μ' ex rnon
          | rt v => exact fun v H' μ' ex q => p v H' μ' ex q
          | bk ρ => exact False.elim p
          | ct ρ => exact False.elim p
      · rw [if_neg e] at p; exact False.elim p
end
end Rf
end
section
namespace Rf
open PySem L2
theorem e0B_ok {K : Frg} {a : Addr} (h : e0B K a = true) (H : Hp) : SqT K H a [] := by
  unfold e0B at h
  split at h
  · rename_i c od its n sl q
    simp only [Bool.and_eq_true, decide_eq_true_eq] at h
    have e : its = #[] := Array.isEmpty_iff.mp h.2
    subst e
    exact .inr ⟨_, #[], n, q, by rw [h.1], rfl, Nat.zero_le _, .nil⟩
  · cases h
theorem dvB_ok {K : Frg} {d : D} {v : He.Dv} (h : dvB K d v = true) (G : Hp) (μ : Mu) (n : Nat) : Rep K G μ n d (v.v K) := by
  unfold dvB at h
  split at h
  · simp only [Rep]; rfl
  · simp only [Rep]; rename_i b c; have : b = c := by simpa using h
    rw [this]; rfl
  · simp only [Rep]; rw [of_decide_eq_true h]; rfl
  · simp only [Rep]; rw [of_decide_eq_true h]; rfl
  · rename_i p; simp only [Rep]; exact ⟨p K, rfl, e0B_ok h G⟩
  · cases h
theorem dvsB_ok {K : Frg} (G : Hp) (μ : Mu) (n : Nat) : ∀ {ds : List D} {vs : List He.Dv}, dvsB K ds vs = true → Reps K G μ n ds (vs.map (He.Dv.v K))
  | [], [], _ => Reps.nil
  | [], _ :: _, h => by cases h
  | _ :: _, [], h => by cases h
  | d :: ds, v :: vs, h => by
    have h := pair_and (show (dvB K d v && dvsB K ds vs) = true from h)
    exact Reps.cons (dvB_ok h.1 G μ n) (dvsB_ok G μ n h.2)
theorem binds_plain {K : Frg} {nm qual : Str} {params : Arguments} {body : List Stmt} {scope : Scope} {kws : List (Str × V)} {f : Addr} {fd : FuncData} {ps : List Str} (h : plainB params ps = true) (F : FunD K nm qual params body scope [] kws f fd) : Binds K fd ps [] := by
  obtain ⟨h1, h2, h3, h4, h5, h6⟩ := plainB_ok h
  exact F.bindsN fun kV doc pm an cdv ct us hl => bind_plain h1 h2 h3 h4 rfl h5 h6 hl
theorem bnd_plain {df : Df} (h : (plainB df.dd.params df.ps && df.dfl.isEmpty && df.dd.dfl.isEmpty) = true) : BndOk df := by
  simp only [Bool.and_eq_true, List.isEmpty_iff] at h
  obtain ⟨⟨h1, h2⟩, h3⟩ := h
  intro K fd F j hj
  have e : df.dd.dvs K = [] := by unfold He.DefD.dvs; rw [h3]; rfl
  rw [e] at F ⊢
  exact ⟨[], by simpa using Paired.nil, binds_plain h1 F⟩
theorem isiB_ok {K : Frg} {cls : List Str} (h : isiB K cls = true) (h2 : cls.all (ownB K) = true) : IsiOk K cls := by
  refine ⟨fun c hc => ?_, fun k t hk ht => ?_⟩
  · have h := List.all_eq_true.mp h2 c (by simpa using hc)
    unfold ownB at h
    simp only [Bool.and_eq_true, decide_eq_true_eq] at h
    obtain ⟨⟨⟨⟨h1, h2⟩, h3⟩, h4⟩, h5⟩ := h
    exact ⟨He.cls_ok h1, He.eqO_ok h2, He.eqO_ok h3, h4, h5⟩
  · have mk : k ∈ allKd cls := by
      cases k with
      | own c => exact List.mem_append_right _ (List.mem_map.mpr ⟨c, by simpa using hk c rfl, rfl⟩)
      | _ => exact List.mem_append_left _ (by decide)
    have mt : t ∈ allTy cls := by
      cases t with
      | own c => exact List.mem_append_right _ (List.mem_map.mpr ⟨c, by simpa [tyOk] using ht, rfl⟩)
      | _ => exact List.mem_append_left _ (by decide)
    exact of_decide_eq_true (List.all_eq_true.mp (List.all_eq_true.mp h k mk) t mt)
theorem conB_ok {K : Frg} {h : Heap} {mg : Str → Option Value} {x : Str} {d : D} (X : K.In h) (G : h.Ns mainGlobals mg) (c : conB K x d = true) : ∃ v u, mg x = some u ∧ RelV v u ∧ ∀ G μ n, Rep K G μ n d v := by
  unfold conB at c
  split at c
  · rename_i s
    obtain ⟨t, e⟩ := He.str_ok X G c
    exact ⟨.str s, _, e, ⟨t, rfl⟩, fun G μ n => by simp only [Rep]⟩
  · rename_i i
    obtain ⟨t, e⟩ := He.int_ok X G c
    exact ⟨.int i, _, e, ⟨t, rfl⟩, fun G μ n => by simp only [Rep]⟩
  · rename_i i j
    have c := pair_and c
    refine ⟨.ref (He.ga K x), _, He.glo_ok X G c.1, rfl, fun G μ n => ?_⟩
    simp only [Rep]
    refine ⟨_, [.int i, .int j], rfl, Reps.cons (by simp only [Rep]) (Reps.one (by simp only [Rep])), ?_, .inr ⟨rfl, He.tupB_ok c.2 G⟩⟩
    rw [← big_eq]; exact Nat.le_of_ble_eq_true rfl
  · cases c
theorem st_funD {K : Frg} {d : He.DefD} (e : fnWS K d.at_ = d.val) (c : stOk K d = true) : ∃ fd, FunD K d.name d.qual d.params d.body d.scope (d.dvs K) (d.kws K) (stAd K d.at_.1 (d.at_.2.getD "")) fd := by
  obtain ⟨kp, c2⟩ := pair_and c
  unfold fnWS at e
  generalize stAd K d.at_.1 (d.at_.2.getD "") = ad at e c2 kp ⊢
  cases q : K.lookup ad with
  | none => rw [q] at c2; cases c2
  | some o =>
    obtain ⟨oc, od, dt, osl⟩ := o
    rw [q] at c2 e
    cases dt with
    | func fd =>
      obtain ⟨n1, n2, n3, n4, n5, n6, n7, n8, n9, n10, n11, n12, n13, n14, n15⟩ := fd
      have e2 : (some (n1, n2, n3, n4, n5, n6, n7, n15) : He.FnW) = some (d.name, d.qual, d.params, .stmts d.body, d.scope, mainGlobals, [], builtinsNs) := e
      simp only [Option.some.injEq, Prod.mk.injEq] at e2
      obtain ⟨rfl, rfl, rfl, rfl, rfl, rfl, rfl, rfl⟩ := e2
      have c3 := pair_and (show (PySem.W.codeIn K n13 d.qual && (He.dflB K n8 (d.dvs K) && He.kwdB K n9 (d.kws K))) = true from c2)
      have c4 := pair_and c3.2
      exact ⟨_, ⟨oc, od, n8, n9, n10, n11, n12, n13, n14, osl, rfl, q, c3.1, He.dflB_ok c4.1, He.kwdB_ok c4.2⟩, kp⟩
    | _ => cases c2
theorem lstB_ok {K : Frg} (h : lstB K = true) : ∀ op, noList op = true → NoOp K op "list" ∧ NoOp K op "tuple" := by
  intro op ho
  have hm : op ∈ [Operator.Sub, .BitAnd] := by cases op <;> first | decide | cases ho
  have h := List.all_eq_true.mp h op hm
  have one : ∀ tn, tn ∈ ["list", "tuple"] → NoOp K op tn := fun tn ht => by
    have h := List.all_eq_true.mp h tn ht
    simp only [Bool.and_eq_true] at h
    exact ⟨He.eqO_ok h.1, He.eqO_ok h.2⟩
  exact ⟨one _ (by decide), one _ (by decide)⟩
theorem eqClsB_ok {K : Frg} {C : Addr} (h : eqClsB K C = true) : EqCls K C := ⟨He.eqO_ok (pair_and h).1, of_decide_eq_true (pair_and h).2⟩
theorem isxB_ok {K : Frg} {C : Addr} (h : isxB K C = true) : IsC K C := by
  unfold isxB at h
  simp only [Bool.and_eq_true, decide_eq_true_eq] at h
  obtain ⟨⟨⟨⟨h1, h2⟩, h3⟩, h4⟩, h5⟩ := h
  exact ⟨h1, He.eqO_ok h2, He.eqO_ok h3, h4, h5⟩
section
variable {L : Law} {K : Frg} {h : Heap} {mg : Str → Option Value} {w : World}
theorem lookup_in {β : Type} {k : Str} {v : β} : ∀ {l : List (Str × β)}, l.lookup k = some v → (k, v) ∈ l
  | [], h => by cases h
  | (j, u) :: r, h => by
    have h2 : (match k == j with | true => some u | false => r.lookup k) = some v := h
    cases q : (k == j) with
    | true =>
      rw [q] at h2
      have e : k = j := by simpa using q
      rw [e, Option.some.inj h2]
      exact List.mem_cons_self ..
    | false => rw [q] at h2; exact List.mem_cons_of_mem _ (lookup_in h2)
theorem mem_fm {α β : Type} {f : α → List β} {l : List α} {a : α} {b : β} (ha : a ∈ l) (hb : b ∈ f a) : b ∈ l.flatMap f := List.mem_flatMap.mpr ⟨a, ha, hb⟩
theorem ad_of {df : Df} (h : (!df.st) = true) : df.ad K = He.fAd K df.dd.at_ := by
  unfold Df.ad
  cases e : df.st with
  | true => rw [e] at h; cases h
  | false => rfl
theorem Law.facts {P : Program} (hP : P.main.file = L.file) (hT : (P.main.scope.names.lookup ("super" : Str)).isSome = false) (hd : L.T.dfl = L.dflOf) (hk : L.chk = true) (B : ∀ df, df ∈ L.defs → BndOk df) (HO : ∀ hf, hf ∈ L.hds → hf.ok L.T = true) (X : K.In h) (G : h.Ns mainGlobals mg) (S : He.SaysX L.fa L.fnD [] [] L.ex w h K) (SS : ∀ d ∈ L.fnS, fnWS K d.at_ = d.val) : Facts P L K mg := by
  have D := S.t.d
  have hm := S.more
  unfold Law.ex at hm
  simp only [Bool.and_eq_true] at hm
  obtain ⟨m1, m2, m3, m4, m5, m6, m7, m8, m9, m10, m11, m12⟩ := hm
  unfold Law.chk at hk
  simp only [Bool.and_eq_true] at hk
  obtain ⟨⟨⟨⟨⟨⟨⟨⟨⟨k1, k2⟩, k3⟩, k4⟩, k5⟩, k6⟩, k7⟩, k8⟩, k9⟩, ka⟩ := hk
  have fct0 : ∀ f, f ∈ L.fa → f.ok K = true := fun f hf => D.facts hf
  have fct : ∀ f, f ∈ L.fa0 → f.ok K = true := fun f hf => fct0 f (List.mem_append_left _ hf)
  refine ⟨hd, fun df hdf => ?_, fun x hx => ?_, fun x hx => ?_, fun f hf => ?_, fun f q hf h0 => ?_, fun k q hq => ?_, fun k m q hq => ?_, lstB_ok m6, fun k hk => ?_, fun f hf k hkf => ?_, isiB_ok m1 m2, fun k hk => ?_, ?_, of_decide_eq_true k5, fun q fs hq => ?_, fun q q' h1 h2 => ?_, fun hf hm => ⟨HO hf hm, ?_⟩, fun f hf => ?_, fun df hdf hl oc od fd osl lk => ?_, fun k m q hq => ?_, fun gf hg => ?_, fun f hf => ?_, fun q hq => ?_, fun q k hq => ?_, fun hf hm hs q hq => ?_⟩
  · have at_ : ∃ fd, FunD K df.dd.name df.dd.qual df.dd.params df.dd.body df.dd.scope (df.dd.dvs K) (df.dd.kws K) (df.ad K) fd := by
      unfold Df.ad
      cases e : df.st with
      | true =>
        have mem : df.dd ∈ L.fnS := List.mem_map.mpr ⟨df, List.mem_filter.mpr ⟨hdf, e⟩, rfl⟩
        exact st_funD (SS _ mem) (List.all_eq_true.mp m10 _ mem)
      | false => exact D.defs (d := df.dd) (List.mem_append_left _ (List.mem_map.mpr ⟨df, List.mem_filter.mpr ⟨hdf, by rw [e]; rfl⟩, rfl⟩))
    obtain ⟨fd, F⟩ := at_
    refine ⟨fd, F, fun j hj => ?_⟩
    obtain ⟨ds, v1, v2⟩ := B df hdf K fd F j hj
    refine ⟨_, ds, fun G μ n => ?_, v1, v2⟩
    exact Reps.drop j (dvsB_ok G μ n (List.all_eq_true.mp m4 df hdf))
  · exact He.free_ok X G (fct _ (List.mem_append_left _ (List.mem_map.mpr ⟨x, by simpa using hx, rfl⟩)))
  · have h3 := List.all_eq_true.mp m3 x (by simpa using hx)
    cases e : L.con x with
    | none => rw [e] at h3; cases h3
    | some d =>
      rw [e] at h3
      obtain ⟨v, u, e1, e2, e3⟩ := conB_ok X G h3
      exact ⟨d, v, u, e1, e2, rfl, e3⟩
  · have h1 := List.all_eq_true.mp k1 f (by simpa using hf)
    cases e : L.find f with
    | none => rw [e] at h1; cases h1
    | some df =>
      rw [e] at h1
      have h1 := pair_and h1
      have e1 : df.dd.at_ = (f, none) := of_decide_eq_true h1.2
      refine ⟨df, rfl, ?_⟩
      rw [ad_of h1.1, e1]
      exact He.glo_ok X G (fct _ (List.mem_append_right _ (List.mem_append_left _ (List.mem_map.mpr ⟨f, by simpa using hf, rfl⟩))))
  · have h1 := List.all_eq_true.mp ka (f, q) (by simpa using hf)
    cases e : L.find q with
    | none => simp only [e] at h1; cases h1
    | some df =>
      simp only [e] at h1
      have h1 := pair_and h1
      have e1 : df.dd.at_ = (f, none) := of_decide_eq_true h1.2
      refine ⟨df, rfl, ?_⟩
      rw [ad_of h1.1, e1]
      exact He.glo_ok X G (fct _ (List.mem_append_right _ (List.mem_append_left _ (List.mem_map.mpr ⟨f, by simpa using h0, rfl⟩))))
  · have h1 := List.all_eq_true.mp k2 (k, q) (by simpa using hq)
    have mem : ∀ z ∈ [He.Fa.mkr k, .glo k], z ∈ L.fa0 := fun z hz => List.mem_append_right _ (List.mem_append_right _ (List.mem_append_left _ (mem_fm (a := (k, q)) (by simpa using hq) hz)))
    cases e : L.find q with
    | none => simp only [e] at h1; cases h1
    | some df =>
      simp only [e] at h1
      have h1 := pair_and h1
      have e1 : df.dd.at_ = (k, some ("__init__" : Str)) := of_decide_eq_true h1.2
      refine ⟨df, rfl, ?_, He.glo_ok X G (fct _ (mem _ (by simp)))⟩
      rw [ad_of h1.1, e1]
      exact He.mkr_ok (fct _ (mem _ (by simp)))
  · have h1 := List.all_eq_true.mp k3 (k, m, q) (by simpa using hq)
    have mem : ∀ z ∈ [He.Fa.cls k, .meth k m], z ∈ L.fa0 := fun z hz => List.mem_append_right _ (List.mem_append_right _ (List.mem_append_right _ (List.mem_append_left _ (mem_fm (a := (k, m, q)) (by simpa using hq) hz))))
    cases e : L.find q with
    | none => simp only [e] at h1; cases h1
    | some df =>
      simp only [e] at h1
      have h1 := pair_and h1
      have e1 : df.dd.at_ = (k, some m) := of_decide_eq_true h1.2
      have h5 := pair_and (List.all_eq_true.mp m5 (k, m, q) (by simpa using hq))
      have h6 := pair_and h5.2
      refine ⟨df, rfl, He.cls_ok (fct _ (mem _ (by simp))), ?_, by rw [ad_of h1.1, e1]; exact h6.1, h5.1, fun em => eqClsB_ok (by
        have h7 : (!decide (m = "__eq__") || eqClsB K (He.ga K k)) = true := h6.2
        rw [decide_eq_true em] at h7
        simpa using h7)⟩
      rw [ad_of h1.1, e1]
      exact He.meth_ok (fct _ (mem _ (by simp)))
  · exact He.glo_ok X G (fct _ (List.mem_append_right _ (List.mem_append_right _ (List.mem_append_right _ (List.mem_append_right _ (List.mem_append_left _ (List.mem_map.mpr ⟨k, by simpa using hk, rfl⟩)))))))
  · have mem : ∀ z, z ∈ L.fl.flatMap (fun p => He.Fa.cls p.1 :: p.2.map (.noat p.1)) → z ∈ L.fa0 := fun z hz => List.mem_append_right _ (List.mem_append_right _ (List.mem_append_right _ (List.mem_append_right _ (List.mem_append_right _ (List.mem_append_left _ hz)))))
    unfold Law.flds at hkf
    cases e : L.fl.lookup k with
    | none => rw [e] at hkf; cases hkf
    | some fs =>
      rw [e] at hkf
      have hkf : fs.contains f = true := hkf
      have hp : (k, fs) ∈ L.fl := lookup_in e
      exact ⟨He.cls_ok (fct _ (mem _ (mem_fm hp (List.mem_cons_self ..)))), He.noat_ok (fct _ (mem _ (mem_fm hp (List.mem_cons_of_mem _ (List.mem_map.mpr ⟨f, by simpa using hkf, rfl⟩)))))⟩
  · have h1 := List.all_eq_true.mp k4 k (by simpa using hk)
    cases e : L.itd.find? (fun i => i.k == k) with
    | none => rw [e] at h1; cases h1
    | some i =>
      rw [e] at h1
      have h1 : (i.ok && i.di.dfl.isEmpty && i.dl.dfl.isEmpty) = true := h1
      simp only [Bool.and_eq_true, List.isEmpty_iff] at h1
      obtain ⟨⟨ok, n1⟩, n2⟩ := h1
      have hi : i ∈ L.itd := List.mem_of_find?_eq_some e
      have mem : ∀ z ∈ [He.Fa.meth i.k "__iter__", .meth i.k "__len__", .cls i.k, .noat i.k i.g, .free "iter", .free "len"], z ∈ L.fa0 := fun z hz =>
        List.mem_append_right _ (List.mem_append_right _ (List.mem_append_right _ (List.mem_append_right _ (List.mem_append_right _ (List.mem_append_right _ (mem_fm hi hz))))))
      have h := ok
      unfold ItDef.ok at h
      simp only [Bool.and_eq_true, decide_eq_true_eq] at h
      obtain ⟨⟨⟨d1, d2⟩, a1⟩, a2⟩ := h
      unfold defB at d1 d2
      simp only [Bool.and_eq_true] at d1 d2
      have M1 := He.meth_ok (fct _ (mem (.meth i.k "__iter__") (by simp)))
      have M2 := He.meth_ok (fct _ (mem (.meth i.k "__len__") (by simp)))
      obtain ⟨fdI, FI⟩ := D.defs (d := i.di) (List.mem_append_right _ (List.mem_append_left _ (mem_fm hi (by simp))))
      obtain ⟨fdL, FL⟩ := D.defs (d := i.dl) (List.mem_append_right _ (List.mem_append_left _ (mem_fm hi (by simp))))
      have e1 : i.di.dvs K = [] := by unfold He.DefD.dvs; rw [n1]; rfl
      have e2 : i.dl.dvs K = [] := by unfold He.DefD.dvs; rw [n2]; rfl
      have f1 : He.fAd K i.di.at_ = He.ma K (He.ga K i.k) "__iter__" := by rw [a1]; rfl
      have f2 : He.fAd K i.dl.at_ = He.ma K (He.ga K i.k) "__len__" := by rw [a2]; rfl
      refine ⟨i, rfl, by rw [f1]; exact M1.at_, by rw [f1]; exact M1.fn, by rw [f2]; exact M2.at_, by rw [f2]; exact M2.fn, ⟨fdI, FI, ?_⟩, ⟨fdL, FL, ?_⟩, He.cls_ok (fct _ (mem (.cls i.k) (by simp))), He.noat_ok (fct _ (mem (.noat i.k i.g) (by simp))), He.free_ok X G (fct _ (mem (.free "iter") (by simp))), He.free_ok X G (fct _ (mem (.free "len") (by simp))), ok⟩
      · rw [e1] at FI
        exact binds_plain d1.1.1.2 FI
      · rw [e2] at FL
        exact binds_plain d2.1.1.2 FL
  · exact He.free_ok X G (fct0 _ (List.mem_append_right _ (List.mem_cons_self ..)))
  · have hp : (q, fs) ∈ L.T.xc := lookup_in hq
    have m7 := pair_and m7
    have h1 := List.all_eq_true.mp m7.1 (q, fs) hp
    simp only [Bool.and_eq_true, decide_eq_true_eq] at h1
    obtain ⟨⟨⟨h1, h2⟩, h3⟩, h4⟩ := h1
    obtain ⟨fI, cc, c, qual, params, body, scope, XI⟩ := xinB_ok hP hT h1
    refine ⟨fs.head?, fI, cc, c, qual, params, body, scope, ?_, XI, He.glo_ok X G (fct0 _ (List.mem_append_right _ (List.mem_cons_of_mem _ (List.mem_append_left _ (List.mem_map.mpr ⟨(q, fs), hp, rfl⟩))))), xfB_ok h3, fun f hf => He.eqO_ok (List.all_eq_true.mp h4 f hf)⟩
    match fs, h2 with
    | [], _ => rfl
    | [f], _ => rfl
    | _ :: _ :: _, h2 => exact absurd (show _ + 2 ≤ 1 from h2) (by omega)
  · have m7 := pair_and m7
    cases e1 : L.T.xc.lookup q with
    | none => rw [e1] at h1; cases h1
    | some fs =>
      cases e2 : L.T.xc.lookup q' with
      | none => rw [e2] at h2; cases h2
      | some fs' => exact of_decide_eq_true (List.all_eq_true.mp (List.all_eq_true.mp m7.2 (q, fs) (lookup_in e1)) (q', fs') (lookup_in e2))
  · exact D.defs (d := hf.dd) (List.mem_append_right _ (List.mem_append_right _ (List.mem_append_left _ (List.mem_map.mpr ⟨hf, hm, rfl⟩))))
  · have h1 := List.all_eq_true.mp k6 f (by simpa using hf)
    cases e : L.findH f with
    | none => rw [e] at h1; cases h1
    | some hf' =>
      rw [e] at h1
      simp only [Bool.and_eq_true, decide_eq_true_eq] at h1
      refine ⟨hf', rfl, h1.1, List.mem_of_find?_eq_some e, ?_⟩
      rw [h1.2]
      exact He.glo_ok X G (fct0 _ (List.mem_append_right _ (List.mem_cons_of_mem _ (List.mem_append_right _ (List.mem_append_left _ (List.mem_map.mpr ⟨f, by simpa using hf, rfl⟩))))))
  · have h1 := List.all_eq_true.mp m8 df hdf
    rw [hl] at h1
    have h1 := pair_and (show (!df.st && lamDB K df.dd.at_ df.dd.qual) = true by simpa using h1)
    rw [ad_of h1.1] at lk
    exact lamDB_ok h1.2 lk
  · have h1 := List.all_eq_true.mp k9 (k, m, q) (by simpa using hq)
    have h2 := List.all_eq_true.mp m9 (k, m, q) (by simpa using hq)
    cases e : L.find q with
    | none => simp only [e] at h1; cases h1
    | some df =>
      simp only [e] at h1
      have h1 := pair_and h1
      have e1 : df.dd.at_ = (k, some m) := of_decide_eq_true h1.2
      refine ⟨df, rfl, ?_, He.glo_ok X G (fct0 _ (List.mem_append_right _ (List.mem_cons_of_mem _ (List.mem_append_right _ (List.mem_append_right _ (List.mem_append_right _ (List.mem_append_left _ (List.mem_map.mpr ⟨(k, m, q), by simpa using hq, rfl⟩))))))))⟩
      have e2 : df.ad K = stAd K k m := by
        unfold Df.ad
        rw [h1.1, e1]
        rfl
      rw [e2]
      exact stB_ok h2
  · exact ⟨List.all_eq_true.mp k8 gf hg, D.defs (d := gf.dd) (List.mem_append_right _ (List.mem_append_right _ (List.mem_append_right _ (List.mem_map.mpr ⟨gf, hg, rfl⟩))))⟩
  · have h1 := List.all_eq_true.mp k7 f (by simpa using hf)
    cases e : L.findG f with
    | none => rw [e] at h1; cases h1
    | some gf =>
      rw [e] at h1
      simp only [Bool.and_eq_true, decide_eq_true_eq, Option.isNone_iff_eq_none] at h1
      refine ⟨gf, h1.2, rfl, List.mem_of_find?_eq_some e, ?_⟩
      rw [h1.1]
      exact He.glo_ok X G (fct0 _ (List.mem_append_right _ (List.mem_cons_of_mem _ (List.mem_append_right _ (List.mem_append_right _ (List.mem_append_left _ (List.mem_map.mpr ⟨f, by simpa using hf, rfl⟩)))))))
  · have mem : ∀ z ∈ [He.Fa.exc q, .glo q], z ∈ L.fa := fun z hz => List.mem_append_right _ (List.mem_cons_of_mem _ (List.mem_append_right _ (List.mem_append_right _ (List.mem_append_right _ (List.mem_append_right _ (List.mem_append_left _ (mem_fm (a := q) (by simpa using hq) hz)))))))
    obtain ⟨e1, e2, _⟩ := He.exc_ok (fct0 _ (mem (.exc q) (by simp)))
    exact ⟨He.glo_ok X G (fct0 _ (mem (.glo q) (by simp))), ⟨He.veBase, "ValueError", "ValueError.__new__", "ValueError.__init__", PySem.F.excBase_ValueError, e1⟩, e2⟩
  · have hq' : (q, k) ∈ L.T.xis := by simpa using hq
    have m := List.all_eq_true.mp m12 _ hq'
    unfold xisB at m
    simp only [Bool.and_eq_true] at m
    obtain ⟨⟨⟨a1, a2⟩, a3⟩, a4⟩ := m
    have one : ∀ p, kB K p q k = true → XfC K (He.ga K p) ∧ IsC K (He.ga K p) ∧ PySem.W.kitOne K (.ref (He.ga K p)) (xqU K k q) = some (k.is p q) := fun p h => by
      unfold kB at h
      simp only [Bool.and_eq_true, decide_eq_true_eq] at h
      exact ⟨xfB_ok h.1.1, isxB_ok h.1.2, h.2⟩
    have fq : xqFa (q, k) ∈ L.fa := List.mem_append_right _ (List.mem_cons_of_mem _ (List.mem_append_right _ (List.mem_append_right _ (List.mem_append_right _ (List.mem_append_right _ (List.mem_append_right _ (List.mem_map.mpr ⟨(q, k), hq', rfl⟩)))))))
    refine ⟨fun p hp => ?_, fun ek => ?_, ?_⟩
    · rcases (by simpa using hp : (L.T.xc.lookup p).isSome = true ∨ p ∈ L.T.x0) with h | h
      · cases e : L.T.xc.lookup p with
        | none => rw [e] at h; cases h
        | some fs => exact one p (List.all_eq_true.mp a1 (p, fs) (lookup_in e))
      · exact one p (List.all_eq_true.mp a2 p h)
    · rw [decide_eq_true ek] at a3
      exact of_decide_eq_true (by simpa using a3)
    · have ne : (q == ("__debug__" : Str)) = false := by simpa using a4
      unfold xqG
      cases k with
      | blt => exact He.free_ok X G (fct0 _ fq)
      | leaf => exact ⟨He.glo_ok X G (fct0 _ fq), ne⟩
      | base => exact ⟨He.glo_ok X G (fct0 _ fq), ne⟩
  · have h1 := List.all_eq_true.mp m11 hf hm
    rw [hs] at h1
    cases e : L.T.xc.lookup q with
    | none => rw [e] at hq; cases hq
    | some fs => exact isxB_ok (List.all_eq_true.mp (show (L.T.xc.all fun p => isxB K (He.ga K p.1)) = true by simpa using h1) (q, fs) (lookup_in e))
end
end Rf
end
section
namespace Rf
open PySem L2
theorem map_eq {α β : Type} {f g : α → β} : ∀ {l : List α}, l.map f = l.map g → ∀ x ∈ l, f x = g x
  | [], _, x, h => by cases h
  | a :: l, e, x, h => by
    rw [List.map_cons, List.map_cons, List.cons.injEq] at e
    rcases List.mem_cons.mp h with z | z
    · rw [z]; exact e.1
    · exact map_eq e.2 x z
theorem saysA {as : List Addr} {fa : List He.Fa} {fn ss : List He.DefD} {ex : Frg → Bool} {w : World} {h : Heap} (e : obsA as fa fn ss ex h.get? = valA fn ss w) : He.SaysX fa fn [] [] ex w h (He.frT h.get? as) ∧ TabsS ss h (He.frT h.get? as) := by
  have e3 : (ss.map fun d => fnWS (He.frT h.get? as) d.at_) = ss.map He.DefD.val := congrArg (fun z : AlS => z.2) e
  have e : (He.obsT fa fn [] (He.frT h.get? as), ex (He.frT h.get? as) && tabsK h.get? (He.frT h.get? as)) = He.valX fn [] w := congrArg (fun z : AlS => z.1) e
  have e1 : He.obsT fa fn [] (He.frT h.get? as) = He.valT fn [] w := congrArg (fun z : He.AlX => z.1) e
  have e2 : (ex (He.frT h.get? as) && tabsK h.get? (He.frT h.get? as)) = true := congrArg (fun z : He.AlX => z.2) e
  obtain ⟨h1, h2⟩ := pair_and e2
  refine ⟨⟨e1, h1, fun p hp => (by cases hp), fun p hp => (by cases hp), fun p hp => (by cases hp)⟩, ⟨fun p hp => ?_, map_eq e3⟩⟩
  have h4 := List.all_eq_true.mp h2 p hp
  cases q : h.get? p.2.1 with
  | none => rw [q] at h4; cases h4
  | some o =>
    rw [q] at h4
    exact ⟨He.frT_none q h4, by rw [He.emptyTab_eq h4]⟩
def hookA (as : List Addr) (fa : List He.Fa) (fn ss : List He.DefD) (ex : Frg → Bool) : PySem.W.Hook where
  α := AlS
  obs := fun s => obsA as fa fn ss ex s.heap.get?
  val := fun w => valA fn ss w
  says := fun w h => ∃ K : Frg, K.In h ∧ He.SaysX fa fn [] [] ex w h K ∧ TabsS ss h K
  of := fun _ _ e => ⟨_, He.frT_in, saysA e⟩
  keeps := fun _ _ _ ⟨K, hK, c, tb⟩ k => ⟨K, PySem.W.Frag.In.keeps hK k, ⟨c.t, c.more, c.hd, c.out, fun p hp => k _ _ (c.empty p hp)⟩, ⟨fun p hp => ⟨(tb.tb p hp).1, k _ _ (tb.tb p hp).2⟩, tb.st⟩⟩
def Law.hk (L : Law) (as : List Addr) : PySem.W.Hook := hookA as L.fa L.fnD L.fnS L.ex
theorem Law.ob_eq (L : Law) (as : List Addr) (s : PySem.W.SharedT) : L.ob as s = (L.hk as).obs s.abs := by
  have e : HandSHeadRun.getT s = s.abs.heap.get? := funext (HandSHeadRun.getT_eq s)
  show obsA _ _ _ _ _ (HandSHeadRun.getT s) = _
  rw [e]
  rfl
theorem three_looks {α β γ δ : Type} {o : Option α} {f : α → β} {g : α → γ} {h : α → δ} {b : β} {c : γ} {d : δ} (h1 : o.map (fun s => (f s, g s)) = some (b, c)) (h2 : o.map h = some d) : o.map (fun s => (f s, g s, h s)) = some (b, c, d) := by
  cases o with
  | none => cases h2
  | some a => cases h1; cases h2; rfl
theorem Law.fin {L : Law} {df : Df} {d : Nat} (R : L.Ready df) (g : L.good d df) {l : PySem.W.OpenLaw} (hP : l.prog.main.file = L.file) (hT : (l.prog.main.scope.names.lookup ("super" : Str)).isSome = false) {w : World} {K : Frg} {h : Heap} {mg : Str → Option Value} {f : Addr} {x : Str} (hx : df.ps = [x]) (X : K.In h) (G : h.Ns mainGlobals mg) (hf : mg ("law" : Str) = some (.ref f))
    (S : He.SaysX L.fa L.fnD [] [] L.ex w h K) (TB : TabsS L.fnS h K) : LamX.LawAtS l w K (L2.CX l.prog w) (4 * d + 4) 63 x mg f h := by
  have F := Law.facts hP hT R.dfl R.chk R.bnd R.hok X G S TB.st
  obtain ⟨fd, F0⟩ := S.t.d.defs (d := df.dd) (List.mem_append_left _ (List.mem_map.mpr ⟨df, List.mem_filter.mpr ⟨R.law, R.nst⟩, rfl⟩))
  have addr : He.fAd K df.dd.at_ = f := by
    have e := hf.symm.trans (He.glo_ok X G (S.t.d.facts (f := .glo "law") (List.mem_append_left _ (List.mem_append_right _ (List.mem_append_left _ (List.mem_map.mpr ⟨"law", by simpa using R.glo, rfl⟩))))))
    rw [R.at_]
    cases e
    rfl
  have un : ∀ fd', FunD K df.dd.name df.dd.qual df.dd.params df.dd.body df.dd.scope (df.dd.dvs K) (df.dd.kws K) (He.fAd K df.dd.at_) fd' → fd' = fd := fun fd' F1 => by
    obtain ⟨oc, od, dV, kV, doc, pm, an, cdv, ct, osl, e1, lk, _⟩ := F0.ex
    obtain ⟨oc', od', dV', kV', doc', pm', an', cdv', ct', osl', e1', lk', _⟩ := F1.ex
    rw [lk] at lk'
    cases lk'
    rfl
  have e0 : df.dd.dvs K = [] := by unfold He.DefD.dvs; rw [R.nodf]; rfl
  obtain ⟨h1, h2, h3, h4, h5, h6⟩ := plainB_ok R.pl
  have back : ∀ p ∈ (csOf K).map (fun p => (p.1, p.2.1)), ∃ q ∈ csOf K, p = (q.1, q.2.1) := fun p hp => by
    obtain ⟨q, hq, e⟩ := List.mem_map.mp hp
    exact ⟨q, hq, e.symm⟩
  refine ⟨fd, (csOf K).map (fun p => (p.1, p.2.1)), spD K (L.g d df), fun p hp => ?_, fun p hp => ?_, fun p hp => ?_, fun s u => ?_, fun H a ns hl _ ho hs => ?_, fun base KB GB hTB => ?_⟩
  · obtain ⟨q, hq, rfl⟩ := back p hp
    exact (TB.tb q hq).2
  · obtain ⟨q, hq, rfl⟩ := back p hp
    exact (TB.tb q hq).1
  · obtain ⟨q, hq, rfl⟩ := back p hp
    exact PySem.W.codeHd_of_K X (csOf_hd hq)
  · rw [e0] at F0
    have b := FunD.bindsA (ps := df.ps) F0 (fun kV doc pm an cdv ct us hl => bind_plain h1 h2 h3 h4 rfl h5 h6 hl) s [u] (by rw [hx]; rfl)
    rw [hx] at b
    exact b
  · obtain ⟨Ω, e⟩ := g ns hl
    refine ⟨⟨fun _ => 0, []⟩, [], [.scr ns], ⟨fun j k hj => ?_, fun k o e => ?_, fun a h => ?_, fun k hk => ?_, fun p hp => ?_⟩, Reps.one ?_, ?_⟩
    · exact absurd hj.lt (Nat.not_lt_zero _)
    · cases e
    · cases h
    · exact absurd hk.lt (Nat.not_lt_zero _)
    · obtain ⟨q, hq, rfl⟩ := List.mem_map.mp hp
      exact LamX.TabS.nil (ho (q.1, q.2.1) (List.mem_map.mpr ⟨q, hq, rfl⟩))
    · simp only [Rep]
      refine ⟨a, rfl, hl, ?_⟩
      have off : Off ⟨fun _ => 0, []⟩ ([] : Sto) a := ⟨fun k hk => absurd hk.lt (Nat.not_lt_zero _), fun z => by cases z⟩
      rcases hs with (h | ⟨o, h⟩) | h
      · exact .inl (.inl (Fz.mk h off))
      · exact .inl (.inr ⟨o, Fz.mk h off⟩)
      · exact .inr h
    · rw [e]
      intro b H' μ' ex r
      simpa only [rD, Rep] using r
  · obtain ⟨fd', F1, K1, _⟩ := (defs_ok (P := l.prog) (w := w) (base := base) F (fun p hp => hTB (p.1, p.2.1) (List.mem_map.mpr ⟨p, hp, rfl⟩)) R.ok d d (Nat.le_refl d)).1 df R.law
    rw [ad_of R.nst] at F1 K1
    rw [un fd' F1, addr, hx] at K1
    exact K1
end Rf
end
section
namespace Rf.K01
open PySem L2
theorem ok : ∀ df, df ∈ L.defs → df.ok L.T = true := by
  have h : (defs.all fun df => df.ok tab) = true := by decide +kernel
  exact fun df hm => List.all_eq_true.mp h df hm
theorem bnd : ∀ df, df ∈ L.defs → BndOk df := by
  have h : (defs.all fun df => (plainB df.dd.params df.ps && df.dfl.isEmpty && df.dd.dfl.isEmpty) || false) = true := by decide +kernel
  intro df hm
  have hm : df ∈ [f__law_spring, f__law_take, f__law_one, f__law_same, f__law_made_of, f__law_bare, f__law_classes, f_law] := hm
  simp only [List.mem_cons, List.not_mem_nil, or_false] at hm
  rcases hm with rfl | rfl | rfl | rfl | rfl | rfl | rfl | rfl
  · exact bnd_plain (by decide +kernel)
  · exact bnd_plain (by decide +kernel)
  · exact bnd_plain (by decide +kernel)
  · exact bnd_plain (by decide +kernel)
  · exact bnd_plain (by decide +kernel)
  · exact bnd_plain (by decide +kernel)
  · exact bnd_plain (by decide +kernel)
  · exact bnd_plain (by decide +kernel)
theorem hok : ∀ hf, hf ∈ L.hds → hf.ok L.T = true := by
  have h : (hdl.all fun hf => hf.ok tab) = true := by decide +kernel
  exact fun hf hm => List.all_eq_true.mp h hf hm
theorem ready : L.Ready f_law := ⟨rfl, by decide +kernel, bnd, ok, by simp [L, defs], rfl, by decide +kernel, rfl, rfl, ⟨_, rfl⟩, by decide +kernel, hok⟩
theorem ob2 {α β γ δ : Type} {o : Option α} {f : α → β} {g : α → γ} {k : α → δ} {b : β} {c : γ} {d : δ} (h1 : o.map f = some b) (h2 : o.map (fun s => (g s, k s)) = some (c, d)) : o.map (fun s => ((f s, g s), k s)) = some ((b, c), d) := by
  cases o with
  | none => cases h1
  | some a => cases h1; cases h2; rfl
open PySem PySem.W PySem.Calls PyProof.Rows HandSHeadRun in
theorem run2 (w : World) (os : OsState) : (HandSHeadRun.endF (HandSHeadRun.stepQ (HandSHeadRun.denQ HandSHeadRun.tabQ) R.prog w) 8000 R.prog w os).map (fun s => L.ob places s) = some ((L.hk places).val w) := ob2 (run2a w os) (run2b w os)
open PySem PySem.W PySem.Calls PyProof.Rows HandSHeadRun in
theorem run (w : World) : RunEq R (PySem.W.view R.prog [33]) (L.hk places) (L.ob places) 8000 loose w := fun os => three_looks (run1 w os) (run2 w os)
end Rf.K01
namespace Rf.K01
open PySem PySem.W PySem.Calls PyProof.Rows
theorem a1 : opening R.prog = plainProg R.prog.main.scope.names := by kernel_rfl
theorem a2 (s) : fenceModules? R.prog s = some s := by kernel_rfl
theorem a3 : defOf (PySem.W.view R.prog [33]) R.name = some (HandSHeadRun.topDef R.prog 33, []) := by kernel_rfl
theorem a4 : R.prog.theDef R.name = some ((HandSHeadRun.topDef R.prog 33).params, (HandSHeadRun.topDef R.prog 33).body, (HandSHeadRun.topDef R.prog 33).scope) := by kernel_rfl
theorem a5 : kwWritten? (HandSHeadRun.topDef R.prog 33).params.kwonlyargs (HandSHeadRun.topDef R.prog 33).params.kw_defaults = some [] := by kernel_rfl
theorem a6 : (!R.writes || R.records.isEmpty) = true := by decide +kernel
theorem a8 : (chainsOk (PySem.W.view R.prog [33]) && opensWell R.prog && (frees R.toRowW && R.within.isEmpty)) = true := by decide +kernel
theorem a9 : R.prog.bare := ⟨by kernel_rfl, by kernel_rfl, by kernel_rfl, by kernel_rfl, by kernel_rfl, by decide +kernel⟩
theorem wit : R.toRowW.promised := by w_witness2
theorem b1 : (HandSHeadRun.topDef R.prog 33).name = ("law" : PySem.Str) := by kernel_rfl
theorem b2 : (HandSHeadRun.topDef R.prog 33).params.defaults = [] := by kernel_rfl
theorem fl_ok : RW.prog.main.file = L.file := by kernel_rfl
theorem tp_ok : (RW.prog.main.scope.names.lookup ("super" : PySem.Str)).isSome = false := by kernel_rfl
theorem b3 (d : Nat) (hd : L2.Room (4 * d + 4) callerA) (g : L.good d f_law) : WalkO (PySem.W.view R.prog [33]) loose (XL (PySem.W.view R.prog [33]) []) (L.hk places).says R.toRowW (HandSHeadRun.topDef R.prog 33) [] (fun f vs => PySem.call f vs) := by
  refine LamX.walk_ofTsE (l := RW) (n := 63) (k := 4 * d + 4) (x := "_law_script") (CX := fun w => L2.CX RW.prog w) rfl (by decide) b2 hd ?F (fun _ _ _ _ _ h => Rf.cx_false h)
  intro w mg fa h Y G hm0
  obtain ⟨K, KX, c, tb⟩ := Y
  rw [b1] at hm0
  exact ⟨K, KX, Rf.Law.fin ready g fl_ok tp_ok rfl KX G hm0 c tb⟩
theorem b4 (d : Nat) (hd : L2.Room (4 * d + 4) callerA) (g : L.good d f_law) (said : R.wellSaid = true) : R.Holds :=
  HandSHeadRun.head_any (r := R) (q := PySem.W.view R.prog [33]) (H := L.hk places) (ob := L.ob places) (M := 8000) (loose := loose) (d := HandSHeadRun.topDef R.prog 33) (kwd := []) (L.ob_eq places) a1 a2 run a3 a4 a5 a6 said a8 a9 wit (b3 d hd g)
set_option maxHeartbeats 0 in
theorem close (d : Nat) (hd : L2.Room (4 * d + 4) callerA) (g : L.good d f_law) : PySem.Challenge.rw_linkedfaults_k01_errors_made.Holds := by
  w_on; o_law
  rename_i said
  exact b4 d hd g said
end Rf.K01
end
section
namespace Rf
open PySem L2
def Has (ft : FT) (f : Str) (S : (List D → Sto → R D) → Prop) : Prop := ∃ g, ft.fn f = some g ∧ S g
def SL.drop : Nat → SL → SL
  | 0, s => s
  | n + 1, .cons _ r => SL.drop n r
  | _ + 1, .nil => .nil
abbrev Un {β : Type} (q : β) : Type := Unit
def RW {α : Type} (r : R α) (Q : α → Sto → Prop) (u : Un Q := ()) : Prop := match r with
  | .ok a Ω => Q a Ω
  | _ => False
def SW (r : RS) (N : Env → Sto → Prop) (Q : D → Sto → Prop) (u : Un N := ()) (w : Un Q := ()) : Prop := match r with
  | .ok (.nx ρ) Ω => N ρ Ω
  | .ok (.rt d) Ω => Q d Ω
  | _ => False
theorem RW.ex {α : Type} {r : R α} {Q : α → Sto → Prop} (h : RW r Q) : ∃ a Ω, r = .ok a Ω ∧ Q a Ω := by
  cases r with
  | ok a Ω => exact ⟨a, Ω, rfl, h⟩
  | _ => exact False.elim h
theorem RW.of {α : Type} {r : R α} {Q : α → Sto → Prop} {a : α} {Ω : Sto} (e : r = .ok a Ω) (h : Q a Ω) : RW r Q := by rw [e]; exact h
theorem RW.mono {α : Type} {r : R α} {Q Q' : α → Sto → Prop} (h : RW r Q) (k : ∀ a Ω, Q a Ω → Q' a Ω) : RW r Q' := by
  cases r with
  | ok a Ω => exact k a Ω h
  | _ => exact h
theorem SW.mono {r : RS} {N N' : Env → Sto → Prop} {Q Q' : D → Sto → Prop} (h : SW r N Q) (k : ∀ ρ Ω, N ρ Ω → N' ρ Ω) (k2 : ∀ d Ω, Q d Ω → Q' d Ω) : SW r N' Q' := by
  cases r with
  | ok f Ω => cases f <;> first | exact k _ _ h | exact k2 _ _ h | exact h
  | _ => exact h
section
variable {α β : Type} {Q : α → Sto → Prop} {N : Env → Sto → Prop} {q : D → Sto → Prop} {ft : FT} {ρ : Env} {Ω : Sto}
theorem RW_ok {a : α} : RW (.ok a Ω) Q = Q a Ω := rfl
theorem RW_bind {r : R β} {f : β → Sto → R α} : RW (r.bind f) Q = RW r (fun a Ω => RW (f a Ω) Q) := by cases r <;> rfl
theorem RW_nx {r : R α} : RW r.nx Q = RW r Q := by cases r <;> rfl
theorem RW_some {a : α} : RW (opt (some a) Ω) Q = Q a Ω := rfl
theorem SW_nx {Ω' : Sto} : SW (.ok (.nx ρ) Ω') N q = N ρ Ω' := rfl
theorem SW_rt {d : D} {Ω' : Sto} : SW (.ok (.rt d) Ω') N q = q d Ω' := rfl
theorem SW_st {r : R α} {f : α → Sto → RS} : SW (r.st ρ f) N q = RW r (fun a Ω => SW (f a Ω) N q) := by cases r <;> rfl
theorem SW_nil : SW (exL ft .nil ρ Ω) N q = N ρ Ω := by rw [exL]; rfl
theorem SW_cons {s : S} {r : SL} : SW (exL ft (.cons s r) ρ Ω) N q = SW (exS ft s ρ Ω) (fun ρ Ω => SW (exL ft r ρ Ω) N q) q := by
  rw [exL]
  cases exS ft s ρ Ω with
  | ok f Ω' => cases f <;> rfl
  | _ => rfl
theorem run_of {np n : Nat} {b : SL} {ds : List D} {P : D → Sto → Prop} (hl : ds.length = np) (h : SW (exL ft b (ds.map some ++ List.replicate (n - ds.length) none) Ω) (fun _ Ω => P .non Ω) P) : ∃ d Ω', runD ft np n b ds Ω = .ok d Ω' ∧ P d Ω' := by
  unfold runD
  rw [if_pos hl]
  cases e : exL ft b (ds.map some ++ List.replicate (n - ds.length) none) Ω with
  | ok f Ω' =>
    rw [e] at h
    cases f with
    | nx ρ => exact ⟨_, _, rfl, h⟩
    | rt d => exact ⟨_, _, rfl, h⟩
    | bk ρ => exact False.elim h
    | ct ρ => exact False.elim h
  | ex x ρ Ω' => rw [e] at h; exact False.elim h
  | bad => rw [e] at h; exact False.elim h
theorem call_of {S : (List D → Sto → R D) → Prop} {f : Str} {ds : List D} {P : D → Sto → Prop} (h : Has ft f S) (k : ∀ g, S g → ∃ d Ω', g ds Ω = .ok d Ω' ∧ P d Ω') : RW (match ft.fn f with | some g => g ds Ω | none => .bad) P := by
  obtain ⟨g, e, s⟩ := h
  obtain ⟨d, Ω', e2, p⟩ := k g s
  rw [e]
  exact RW.of e2 p
end
section
variable (Ω : Sto)
theorem lk_int (i : Int) : lk Ω (.int i) = .int i := rfl
theorem lk_bl (i : Bool) : lk Ω (.bl i) = .bl i := rfl
theorem lk_str (i : Str) : lk Ω (.str i) = .str i := rfl
theorem lk_non : lk Ω .non = .non := rfl
theorem lk_tup (i : List D) : lk Ω (.tup i) = .tup i := rfl
theorem lk_lst (i : List D) : lk Ω (.lst i) = .lst i := rfl
theorem lk_dk (i : List (Key × D)) : lk Ω (.dk i) = .dk i := rfl
theorem lk_dt (i : List (List Key × D)) : lk Ω (.dt i) = .dt i := rfl
theorem lk_ins (c : Str) (i : List (Str × D)) : lk Ω (.ins c i) = .ins c i := rfl
theorem lk_e0 : lk Ω .e0 = .e0 := rfl
theorem lk_scr (i : List Int) : lk Ω (.scr i) = .scr i := rfl
theorem lk_hl {k : Nat} {xs : List D} (h : Ω[k]? = some (.lst xs)) : lk Ω (.hd k) = .lst xs := by show (match Ω[k]? with | some (.lst xs) => D.lst xs | some (.dk kvs) => .dk kvs | some (.dt kvs) => .dt kvs | some (.ins c fs) => .ins c fs | _ => .hd k) = _; rw [h]
end
theorem ixN_03 : ixN 4 0 = some 0 := by decide
theorem ixN_13 : ixN 4 1 = some 1 := by decide
theorem ixN_23 : ixN 4 2 = some 2 := by decide
theorem ixN_33 : ixN 4 3 = some 3 := by decide
theorem set_get {α : Type} {l : List α} {i : Nat} {a b : α} (h : l[i]? = some a) : (l.set i b)[i]? = some b := List.getElem?_set_self (List.getElem?_eq_some_iff.mp h).1
theorem atI0 {α : Type} (a : α) (l : List α) : atI (a :: l) 0 = some a := by
  unfold atI ixN
  rw [if_pos (by decide), if_pos (by simp)]
  rfl
theorem atI_s {α : Type} (a : α) (l : List α) (i : Int) (h : 0 ≤ i) : atI (a :: l) (i + 1) = atI l i := by
  unfold atI ixN
  have e1 : (0 : Int) ≤ i + 1 := by omega
  have e2 : (i + 1).toNat = i.toNat + 1 := by omega
  rw [if_pos e1, if_pos h]
  by_cases hl : i < (l.length : Int)
  · rw [if_pos (by rw [List.length_cons]; push_cast; omega), if_pos hl, e2]
    rfl
  · rw [if_neg (by rw [List.length_cons]; push_cast; omega), if_neg hl]
    rfl
theorem atI1 {α : Type} (a b : α) (l : List α) : atI (a :: b :: l) 1 = some b := by rw [show (1 : Int) = 0 + 1 from rfl, atI_s _ _ _ (by decide), atI0]
theorem atI2 {α : Type} (a b c : α) (l : List α) : atI (a :: b :: c :: l) 2 = some c := by rw [show (2 : Int) = 1 + 1 from rfl, atI_s _ _ _ (by decide), atI1]
theorem atI3 {α : Type} (a b c d : α) (l : List α) : atI (a :: b :: c :: d :: l) 3 = some d := by rw [show (3 : Int) = 2 + 1 from rfl, atI_s _ _ _ (by decide), atI2]
theorem idxD_lst (xs : List D) (i : Int) : idxD (.lst xs) (.int i) = atI xs i := rfl
theorem idxD_tup (xs : List D) (i : Int) : idxD (.tup xs) (.int i) = atI xs i := rfl
theorem ixN_lit {n : Nat} {i : Int} (h : 0 ≤ i) (h2 : i < n) : ixN n i = some i.toNat := by unfold ixN; rw [if_pos h, if_pos h2]
theorem eqD_int (a b : Int) : eqD (.int a) (.int b) = some (a == b) := rfl
theorem toPys_ints : ∀ xs : List Int, toPys (xs.map .int) = some (xs.map .int)
  | [] => rfl
  | x :: xs => by show (match toPy (D.int x), toPys (xs.map .int) with | some d, some ds => some (d :: ds) | _, _ => none) = _; rw [toPys_ints xs]; rfl
theorem canLay_ints : ∀ xs : List Int, PyData.canLayAll0 (xs.map PyData.int) = true
  | [] => by simp [PyData.canLayAll0]
  | x :: xs => by simp [PyData.canLayAll0, PyData.canLay0, canLay_ints xs]
theorem depth_ints : ∀ xs : List Int, PyData.depthAll (xs.map PyData.int) = 0
  | [] => by simp [PyData.depthAll]
  | x :: xs => by simp [PyData.depthAll, PyData.depth, depth_ints xs]
theorem eqD_ints_nil (xs : List Int) : eqD (.lst (xs.map .int)) (.lst []) = some xs.isEmpty := by
  unfold eqD
  have e : toPy (.lst (xs.map .int)) = some (.list (xs.map .int)) := by show (toPys _).map _ = _; rw [toPys_ints]; rfl
  have e2 : toPy (.lst []) = some (.list []) := rfl
  have s1 : SeqAt.shaped (.list (xs.map .int)) = true := by
    unfold SeqAt.shaped
    simp [PyData.canLay0, PyData.depth, canLay_ints, depth_ints]
  have s2 : SeqAt.shaped (.list []) = true := by decide
  rw [e, e2]
  simp only [s1, s2, and_self, if_true]
  cases xs with
  | nil => simp [PyData.eqv, PyData.eqvAll]
  | cons x xs => simp [PyData.eqv, PyData.eqvAll]
section
variable (i j : Int) (s t : Str) (xs ys : List D)
theorem addi : op2D .Add (.int i) (.int j) = some (.int (i + j)) := rfl
theorem subi : op2D .Sub (.int i) (.int j) = some (.int (i - j)) := rfl
theorem modi : op2D .Mod (.int i) (.int j) = if 0 < j then some (.int (i % j)) else none := rfl
theorem divi : op2D .FloorDiv (.int i) (.int j) = if 0 < j ∧ j.natAbs.log2 < 9000 then some (.int (i / j)) else none := rfl
theorem muli : op2D .Mult (.int i) (.int j) = if i.natAbs.log2 + j.natAbs.log2 < 1000000 then some (.int (i * j)) else none := rfl
theorem powi : op2D .Pow (.int i) (.int j) = if 0 ≤ j ∧ j ≤ 1000000 ∧ i.natAbs < 2 ^ 64 then some (.int (i ^ j.toNat)) else none := rfl
theorem lenl : biD .len [.lst xs] = some (.int xs.length) := rfl
theorem lent : biD .len [.tup xs] = some (.int xs.length) := rfl
theorem lenk (kvs : List (Key × D)) : biD .len [.dk kvs] = some (.int kvs.length) := rfl
theorem inti : biD .int [.int i] = some (.int i) := rfl
theorem intb (b : Bool) : biD .int [.bl b] = some (.int (if b then 1 else 0)) := rfl
theorem absi : biD .abs [.int i] = some (.int (if i < 0 then -i else i)) := rfl
theorem strs_ : biD .str [.str s] = some (.str s) := rfl
theorem tupl : biD .tuple [.lst xs] = some (.tup xs) := rfl
theorem tupt : biD .tuple [.tup xs] = some (.tup xs) := rfl
theorem alll : biD .all [.lst xs] = (boolsD xs).map fun bs => .bl (bs.all id) := rfl
theorem cEq (a b : D) : cmpD .Eq a b = eqD a b := by cases a <;> rfl
theorem cNe (a b : D) : cmpD .NotEq a b = (eqD a b).map (!·) := by cases a <;> rfl
theorem cIn (a b : D) : cmpD .In a b = inD a b := by cases a <;> rfl
theorem cNi (a b : D) : cmpD .NotIn a b = (inD a b).map (!·) := by cases a <;> rfl
theorem cLt : cmpD .Lt (.int i) (.int j) = some (decide (i < j)) := rfl
theorem cLe : cmpD .LtE (.int i) (.int j) = some (decide (i ≤ j)) := rfl
theorem cGt : cmpD .Gt (.int i) (.int j) = some (decide (j < i)) := rfl
theorem cGe : cmpD .GtE (.int i) (.int j) = some (decide (j ≤ i)) := rfl
theorem cLs : cmpD .Lt (.str s) (.str t) = some (decide (s.cps.toList < t.cps.toList)) := rfl
end
theorem big0 : (0 ≤ big) = True := by simp
theorem big1 : (1 ≤ big) = True := by simp [big]
theorem big2 : (2 ≤ big) = True := by simp [big]
theorem big3 : (3 ≤ big) = True := by simp [big]
theorem big4 : (4 ≤ big) = True := by simp [big]
theorem log_lt {i : Int} {k : Nat} (h : i.natAbs < 2 ^ k) : i.natAbs.log2 < k + 1 := by
  by_cases hz : i.natAbs = 0
  · simp [hz]
  · have := (Nat.log2_lt hz (k := k)).mpr h
    omega
theorem mul_small {i j : Int} (hi : i.natAbs < 2 ^ 490000) (hj : j.natAbs < 2 ^ 490000) : op2D .Mult (.int i) (.int j) = some (.int (i * j)) := by
  have h1 := log_lt hi
  have h2 := log_lt hj
  rw [muli, if_pos (by omega)]
theorem div_small {i j : Int} (hj : 0 < j) (h2 : j.natAbs < 2 ^ 8999) : op2D .FloorDiv (.int i) (.int j) = some (.int (i / j)) := by
  have h3 := log_lt h2
  rw [divi, if_pos ⟨hj, by omega⟩]
theorem mod_pos {i j : Int} (hj : 0 < j) : op2D .Mod (.int i) (.int j) = some (.int (i % j)) := by rw [modi, if_pos hj]
end Rf
end
local macro_rules
  | `(tactic| simp_arith only []) => `(tactic| try simp -dsimp only [Rf.SW_nx, Rf.SW_rt, Rf.SW_st, Rf.exS, Rf.evT, Rf.evE, Rf.evAnd, Rf.evOr, Rf.evL, Rf.evO, Rf.evC, Rf.evSr, Rf.RW_bind, Rf.RW_ok, Rf.RW_nx, Rf.RW_some, List.getElem?_cons_zero, List.getElem?_cons_succ, Rf.lk_int, Rf.lk_bl, Rf.lk_str, Rf.lk_non, Rf.lk_tup, Rf.lk_lst, Rf.lk_dk, Rf.lk_dt, Rf.lk_ins, Rf.lk_e0, Rf.lk_scr, Rf.idxD_lst, Rf.idxD_tup, Rf.atI0, Rf.atI1, Rf.atI2, Rf.atI3, Rf.addi, Rf.subi, Rf.lenl, Rf.lent, Rf.lenk, Rf.inti, Rf.intb, Rf.absi, Rf.strs_, Rf.tupl, Rf.tupt, Rf.cEq, Rf.cNe, Rf.cIn, Rf.cNi, Rf.cLt, Rf.cLe, Rf.cGt, Rf.cGe, Rf.cLs, Rf.eqD_int, List.set_cons_zero, List.set_cons_succ, Rf.asBool, Bool.false_eq_true, if_true, if_false, ite_true, ite_false, Rf.bindT, Rf.setAll, List.map_cons, List.map_nil, Rf.isNonD, Rf.wipeD, List.length_cons, List.length_nil, Nat.zero_add, Nat.reduceAdd, List.drop_nil, List.append_nil, Option.map_some, Rf.ixN_03, Rf.ixN_13, Rf.ixN_23, Rf.ixN_33, Bool.not_true, Bool.not_false, Rf.big0, Rf.big1, Rf.big2, Rf.big3, Rf.big4, Rf.methX, Rf.methM, Rf.lookM, Rf.recvOk, List.nil_append, List.cons_append])
  | `(tactic| simp_arith only [$args,*]) => `(tactic| try simp -dsimp only [Rf.SW_nx, Rf.SW_rt, Rf.SW_st, Rf.exS, Rf.evT, Rf.evE, Rf.evAnd, Rf.evOr, Rf.evL, Rf.evO, Rf.evC, Rf.evSr, Rf.RW_bind, Rf.RW_ok, Rf.RW_nx, Rf.RW_some, List.getElem?_cons_zero, List.getElem?_cons_succ, Rf.lk_int, Rf.lk_bl, Rf.lk_str, Rf.lk_non, Rf.lk_tup, Rf.lk_lst, Rf.lk_dk, Rf.lk_dt, Rf.lk_ins, Rf.lk_e0, Rf.lk_scr, Rf.idxD_lst, Rf.idxD_tup, Rf.atI0, Rf.atI1, Rf.atI2, Rf.atI3, Rf.addi, Rf.subi, Rf.lenl, Rf.lent, Rf.lenk, Rf.inti, Rf.intb, Rf.absi, Rf.strs_, Rf.tupl, Rf.tupt, Rf.cEq, Rf.cNe, Rf.cIn, Rf.cNi, Rf.cLt, Rf.cLe, Rf.cGt, Rf.cGe, Rf.cLs, Rf.eqD_int, List.set_cons_zero, List.set_cons_succ, Rf.asBool, Bool.false_eq_true, if_true, if_false, ite_true, ite_false, Rf.bindT, Rf.setAll, List.map_cons, List.map_nil, Rf.isNonD, Rf.wipeD, List.length_cons, List.length_nil, Nat.zero_add, Nat.reduceAdd, List.drop_nil, List.append_nil, Option.map_some, Rf.ixN_03, Rf.ixN_13, Rf.ixN_23, Rf.ixN_33, Bool.not_true, Bool.not_false, Rf.big0, Rf.big1, Rf.big2, Rf.big3, Rf.big4, Rf.methX, Rf.methM, Rf.lookM, Rf.recvOk, List.nil_append, List.cons_append, $args,*])
local macro_rules
  | `(tactic| simp_all_arith only []) => `(tactic| try simp -dsimp only [Rf.SX_nx, Rf.SX_rt, Rf.SX_st, Rf.exS, Rf.evT, Rf.evE, Rf.evAnd, Rf.evOr, Rf.evL, Rf.evO, Rf.evC, Rf.evSr, Rf.RX_bind, Rf.RX_ok, Rf.RX_nx, Rf.RX_some, Rf.RX_ex, Rf.SX_ex, List.getElem?_cons_zero, List.getElem?_cons_succ, Rf.lk_int, Rf.lk_bl, Rf.lk_str, Rf.lk_non, Rf.lk_tup, Rf.lk_lst, Rf.lk_dk, Rf.lk_dt, Rf.lk_ins, Rf.lk_e0, Rf.lk_scr, Rf.idxD_lst, Rf.idxD_tup, Rf.atI0, Rf.atI1, Rf.atI2, Rf.atI3, Rf.addi, Rf.subi, Rf.lenl, Rf.lent, Rf.lenk, Rf.inti, Rf.intb, Rf.absi, Rf.strs_, Rf.tupl, Rf.tupt, Rf.cEq, Rf.cNe, Rf.cIn, Rf.cNi, Rf.cLt, Rf.cLe, Rf.cGt, Rf.cGe, Rf.cLs, Rf.eqD_int, List.set_cons_zero, List.set_cons_succ, Rf.asBool, Bool.false_eq_true, if_true, if_false, ite_true, ite_false, Rf.bindT, Rf.setAll, List.map_cons, List.map_nil, Rf.isNonD, Rf.wipeD, List.length_cons, List.length_nil, Nat.zero_add, Nat.reduceAdd, List.drop_nil, List.append_nil, Option.map_some, Rf.ixN_03, Rf.ixN_13, Rf.ixN_23, Rf.ixN_33, Bool.not_true, Bool.not_false, Rf.big0, Rf.big1, Rf.big2, Rf.big3, Rf.big4, Rf.methX, Rf.methM, Rf.lookM, Rf.recvOk, List.nil_append, List.cons_append])
  | `(tactic| simp_all_arith only [$args,*]) => `(tactic| try simp -dsimp only [Rf.SX_nx, Rf.SX_rt, Rf.SX_st, Rf.exS, Rf.evT, Rf.evE, Rf.evAnd, Rf.evOr, Rf.evL, Rf.evO, Rf.evC, Rf.evSr, Rf.RX_bind, Rf.RX_ok, Rf.RX_nx, Rf.RX_some, Rf.RX_ex, Rf.SX_ex, List.getElem?_cons_zero, List.getElem?_cons_succ, Rf.lk_int, Rf.lk_bl, Rf.lk_str, Rf.lk_non, Rf.lk_tup, Rf.lk_lst, Rf.lk_dk, Rf.lk_dt, Rf.lk_ins, Rf.lk_e0, Rf.lk_scr, Rf.idxD_lst, Rf.idxD_tup, Rf.atI0, Rf.atI1, Rf.atI2, Rf.atI3, Rf.addi, Rf.subi, Rf.lenl, Rf.lent, Rf.lenk, Rf.inti, Rf.intb, Rf.absi, Rf.strs_, Rf.tupl, Rf.tupt, Rf.cEq, Rf.cNe, Rf.cIn, Rf.cNi, Rf.cLt, Rf.cLe, Rf.cGt, Rf.cGe, Rf.cLs, Rf.eqD_int, List.set_cons_zero, List.set_cons_succ, Rf.asBool, Bool.false_eq_true, if_true, if_false, ite_true, ite_false, Rf.bindT, Rf.setAll, List.map_cons, List.map_nil, Rf.isNonD, Rf.wipeD, List.length_cons, List.length_nil, Nat.zero_add, Nat.reduceAdd, List.drop_nil, List.append_nil, Option.map_some, Rf.ixN_03, Rf.ixN_13, Rf.ixN_23, Rf.ixN_33, Bool.not_true, Bool.not_false, Rf.big0, Rf.big1, Rf.big2, Rf.big3, Rf.big4, Rf.methX, Rf.methM, Rf.lookM, Rf.recvOk, List.nil_append, List.cons_append, $args,*])
section
namespace Rf
open PySem L2
def Sp (Ω : Sto) (s b : Nat) (c : Int) : Prop := ∃ (bigs : List Int) (cur : Int) (sm : List Int) (cnt : Int), Ω[s]? = some (.lst [.hd b, .int cur, .lst (sm.map .int), .int cnt]) ∧ Ω[b]? = some (.lst (bigs.map .int)) ∧ s ≠ b ∧ 0 ≤ cnt ∧ cnt ≤ c
structure Kp (s b : Nat) (Ω Ω' : Sto) : Prop where
  len : Ω.length ≤ Ω'.length
  at_ : ∀ i, i < Ω.length → i ≠ s → i ≠ b → Ω'[i]? = Ω[i]?
theorem Kp.refl {s b : Nat} {Ω : Sto} : Kp s b Ω Ω := ⟨Nat.le_refl _, fun _ _ _ _ => rfl⟩
theorem Kp.trans {s b : Nat} {Ω Ω' Ω'' : Sto} (h : Kp s b Ω Ω') (h' : Kp s b Ω' Ω'') : Kp s b Ω Ω'' := ⟨Nat.le_trans h.len h'.len, fun i hi h1 h2 => (h'.at_ i (Nat.lt_of_lt_of_le hi h.len) h1 h2).trans (h.at_ i hi h1 h2)⟩
def TakeS (g : List D → Sto → R D) : Prop := ∀ Ω s b c m, Sp Ω s b c → c < 2 ^ 40 → 0 < m → m < 2 ^ 60 → ∃ v Ω', g [.hd s, .int m] Ω = .ok (.int v) Ω' ∧ 0 ≤ v ∧ v < m ∧ Sp Ω' s b (c + 1) ∧ Kp s b Ω Ω'
theorem take_ok (ft : FT) : TakeS (runD ft 2 6 C.s__law_take) := by
  intro Ω s b c m ⟨bigs, cur, sm, cnt, hs, hb, hne, h0, hc⟩ hc2 hm hm2
  suffices h : ∃ d Ω', runD ft 2 6 C.s__law_take [.hd s, .int m] Ω = .ok d Ω' ∧ ∃ v, d = .int v ∧ 0 ≤ v ∧ v < m ∧ Sp Ω' s b (c + 1) ∧ Kp s b Ω Ω' by
    obtain ⟨d, Ω', e, v, rfl, h⟩ := h
    exact ⟨v, Ω', e, h⟩
  refine run_of rfl ?_
  show SW (exL ft C.s__law_take [some (.hd s), some (.int m), none, none, none, none] Ω) _ _
  have hs' := lk_hl Ω hs
  have st : ∀ ob, (Ω.set s ob)[s]? = some ob := fun ob => set_get hs
  unfold C.s__law_take
  rw [SW_cons]
  simp_arith only [hs', hs]
  generalize hΩ1 : Ω.set s (Ob.lst [D.hd b, D.int cur, D.lst (sm.map D.int), D.int (cnt + 1)]) = Ω1
  have hs1 : Ω1[s]? = some (Ob.lst [D.hd b, D.int cur, D.lst (sm.map D.int), D.int (cnt + 1)]) := by rw [← hΩ1]; exact st _
  have hb1 : Ω1[b]? = some (Ob.lst (bigs.map .int)) := by rw [← hΩ1, List.getElem?_set_ne hne]; exact hb
  have k1 : Kp s b Ω Ω1 := by rw [← hΩ1]; exact ⟨by rw [List.length_set]; exact Nat.le_refl _, fun i _ h1 _ => List.getElem?_set_ne (Ne.symm h1)⟩
  clear hΩ1
  have hs1' := lk_hl Ω1 hs1
  have hb1' := lk_hl Ω1 hb1
  rw [SW_cons]
  /- the second row: a great cell is taken in hand -/
  have cut : ∀ (P : Sto → Prop), (∀ (cur : Int) (bigs : List Int) Ω2, Ω2[s]? = some (Ob.lst [D.hd b, D.int cur, D.lst (sm.map D.int), D.int (cnt + 1)]) → Ω2[b]? = some (Ob.lst (bigs.map .int)) → Kp s b Ω Ω2 → P Ω2) →
      SW (exS ft (S.ife (E.and (EL.cons (E.cmp CmpOp.Eq ((E.var 0).idx (E.int 1)) (E.int 0)) (EL.cons (E.cmp CmpOp.NotEq ((E.var 0).idx (E.int 0)) (E.lst EL.nil)) EL.nil))) (SL.cons (S.iset (E.var 0) (E.int 1) (((E.var 0).idx (E.int 0)).meth Mt.popi (EL.cons (E.int 0) EL.nil))) SL.nil) SL.nil) [some (D.hd s), some (D.int m), none, none, none, none] Ω1) (fun ρ Ω => ρ = [some (D.hd s), some (D.int m), none, none, none, none] ∧ P Ω) (fun _ _ => False) := by
    intro P hP
    have dn := hP cur bigs Ω1 hs1 hb1 k1
    simp_arith only [hs1', hs1]
    by_cases h1 : cur = 0
    · simp_arith only [h1, beq_self_eq_true, hs1', hs1, hb1']
      simp_arith only [hs1', hs1, hb1', eqD_ints_nil]
      cases bigs with
      | nil =>
        simp_arith only [List.isEmpty_nil]
        rw [SW_nil]
        exact ⟨rfl, by rw [h1] at *; exact dn⟩
      | cons x xs =>
        simp_arith only [List.isEmpty_cons]
        rw [SW_cons]
        simp_arith only [hs1', hs1, hb1', hb1]
        have e0 : ∀ n : Nat, ixN (n + 1) 0 = some 0 := fun n => ixN_lit (by decide) (by omega)
        rw [e0]
        simp only [List.getElem?_cons_zero]
        rw [if_pos ⟨by decide, by decide⟩, RW_ok]
        have q1 : (Ω1.set b (Ob.lst ((D.int x :: List.map D.int xs).eraseIdx 0)))[s]? = some (Ob.lst [D.hd b, D.int cur, D.lst (List.map D.int sm), D.int (cnt + 1)]) := by rw [List.getElem?_set_ne (Ne.symm hne)]; exact hs1
        simp_arith only [q1]
        rw [SW_nil]
        refine ⟨rfl, hP x xs _ (set_get q1) ?_ ⟨?_, fun i hi h1 h2 => ?_⟩⟩
        · rw [List.getElem?_set_ne hne, set_get hb1]
          rfl
        · rw [List.length_set, List.length_set]; exact k1.len
        · rw [List.getElem?_set_ne (Ne.symm h1), List.getElem?_set_ne (Ne.symm h2)]; exact k1.at_ i hi h1 h2
    · rw [if_neg (by simpa using h1)]
      simp_arith only []
      rw [SW_nil]
      exact ⟨rfl, dn⟩
  refine SW.mono (cut (fun Ω2 => SW (exL ft _ [some (D.hd s), some (D.int m), none, none, none, none] Ω2) _ _) fun cur bigs Ω2 hs2 hb2 k2 => ?_) (fun ρ Ω h => by obtain ⟨rfl, h⟩ := h; exact h) (fun _ _ h => False.elim h)
  clear cut hs1 hb1 k1 hs1' hb1' hs hb hs' st
  have hs2' := lk_hl Ω2 hs2
  have st2 : ∀ ob, (Ω2.set s ob)[s]? = some ob := fun ob => set_get hs2
  have m0 : 0 < m := hm
  have ml : m.natAbs.log2 < 9000 := by
    have h1 : m.natAbs < 2 ^ 60 := by omega
    have := (Nat.log2_lt (n := m.natAbs) (by omega) (k := 60)).mpr h1
    omega
  rw [SW_cons]
  simp_arith only [hs2', hs2]
  by_cases hcur : 0 < cur
  · rw [if_pos (by simpa using hcur), SW_cons]
    simp_arith only [hs2', hs2, mod_pos hm]
    rw [SW_cons]
    simp_arith only [hs2', hs2, divi, m0, ml, and_self]
    rw [SW_cons]
    simp_arith only []
    refine ⟨_, rfl, Int.emod_nonneg _ (by omega), Int.emod_lt_of_pos _ hm, ⟨bigs, _, sm, cnt + 1, st2 _, ?_, hne, by omega, by omega⟩, ?_⟩
    · rw [List.getElem?_set_ne hne]; exact hb2
    · exact k2.trans ⟨by rw [List.length_set]; exact Nat.le_refl _, fun i _ h1 _ => List.getElem?_set_ne (Ne.symm h1)⟩
  · rw [if_neg (by simpa using hcur), SW_nil, SW_cons]
    simp_arith only [hs2', hs2]
    simp_arith only [eqD_ints_nil]
    have nx : ∀ cell : Int, SW (exL ft (SL.drop 4 C.s__law_take) [some (D.hd s), some (D.int m), some (D.int cell), none, none, none] Ω2) (fun _ Ω' => ∃ v, D.non = .int v ∧ 0 ≤ v ∧ v < m ∧ Sp Ω' s b (c + 1) ∧ Kp s b Ω Ω') (fun d Ω' => ∃ v, d = .int v ∧ 0 ≤ v ∧ v < m ∧ Sp Ω' s b (c + 1) ∧ Kp s b Ω Ω') := by
      intro cell
      simp only [C.s__law_take, SL.drop]
      have c1 : (7907 : Int).natAbs < 2 ^ 490000 := Nat.lt_of_lt_of_le (show (7907 : Int).natAbs < 2 ^ 13 by decide) (Nat.pow_le_pow_right (by decide) (by decide))
      have p490 : ∀ n : Int, n.natAbs < 2 ^ 100 → n.natAbs < 2 ^ 490000 := fun n h => Nat.lt_of_lt_of_le h (Nat.pow_le_pow_right (by decide) (by decide))
      have hcn : (cnt + 1).natAbs < 2 ^ 100 := by omega
      rw [SW_cons]
      simp_arith only [hs2', hs2, mod_pos (j := 1000003) (by decide), mul_small (i := 7907) (p490 _ (by decide)) (p490 _ hcn)]
      have hp : (cell % 1000003 + 7907 * (cnt + 1) + 11).natAbs < 2 ^ 64 := by
        have h1 := Int.emod_nonneg cell (b := 1000003) (by decide)
        have h2 := Int.emod_lt_of_pos cell (b := 1000003) (by decide)
        omega
      rw [powi, if_pos ⟨by decide, by decide, hp⟩]
      · simp_arith only [mod_pos (j := 2147483629) (by decide)]
        rw [SW_cons]
        have e1 : ∀ z : Int, (z % 2147483629).natAbs < 2 ^ 100 := fun z => by
          have := Int.emod_nonneg z (b := 2147483629) (by decide)
          have := Int.emod_lt_of_pos z (b := 2147483629) (by decide)
          omega
        have e2 : ∀ z : Int, (z % 2147483587).natAbs < 2 ^ 100 := fun z => by
          have := Int.emod_nonneg z (b := 2147483587) (by decide)
          have := Int.emod_lt_of_pos z (b := 2147483587) (by decide)
          omega
        simp_arith only [hs2', hs2, mod_pos (j := 2147483587) (by decide), mul_small (i := 6007) (p490 _ (by decide)) (p490 _ hcn), mul_small (j := 48271) (p490 _ (e1 _)) (p490 _ (by decide))]
        rw [SW_cons]
        simp_arith only [hs2', hs2, mod_pos (j := 1000000007) (by decide), mul_small (j := 69621) (p490 _ (e2 _)) (p490 _ (by decide)), div_small (j := 5) (by decide) (Nat.lt_of_lt_of_le (show (5 : Int).natAbs < 2 ^ 3 by decide) (Nat.pow_le_pow_right (by decide) (by decide))), mod_pos hm]
        exact ⟨_, rfl, Int.emod_nonneg _ (by omega), Int.emod_lt_of_pos _ hm, ⟨bigs, _, sm, cnt + 1, hs2, hb2, hne, by omega, by omega⟩, k2⟩
    cases sm with
    | nil =>
      simp_arith only [List.isEmpty_nil, hs2', hs2]
      rw [mul_small (i := 13) (Nat.lt_of_lt_of_le (show (13 : Int).natAbs < 2 ^ 13 by decide) (Nat.pow_le_pow_right (by decide) (by decide))) (Nat.lt_of_lt_of_le (show (cnt + 1).natAbs < 2 ^ 100 by omega) (Nat.pow_le_pow_right (by decide) (by decide)))]
      simp_arith only []
      exact nx _
    | cons z zs =>
      simp_arith only [List.isEmpty_cons, hs2', hs2, List.length_map]
      rw [mod_pos (by omega)]
      simp_arith only []
      have g1 := Int.emod_nonneg (cnt + 1) (b := ((zs.length + 1 : Nat) : Int)) (by omega)
      have g2 := Int.emod_lt_of_pos (cnt + 1) (b := ((zs.length + 1 : Nat) : Int)) (by omega)
      have g3 : ∃ v, atI (D.int z :: List.map D.int zs) ((cnt + 1) % ((zs.length + 1 : Nat) : Int)) = some (D.int v) := by
        unfold atI
        rw [ixN_lit g1 (by simpa using g2)]
        have : ((cnt + 1) % ((zs.length + 1 : Nat) : Int)).toNat < (z :: zs).length := by simp only [List.length_cons]; omega
        refine ⟨(z :: zs)[((cnt + 1) % ((zs.length + 1 : Nat) : Int)).toNat], ?_⟩
        show (List.map D.int (z :: zs))[_]? = _
        rw [List.getElem?_map, List.getElem?_eq_getElem this]
        rfl
      obtain ⟨v, g3⟩ := g3
      rw [g3]
      simp_arith only []
      exact nx _
end Rf
end
section
namespace Rf
open PySem L2
section
variable {ft : FT} {ρ : Env} {Ω : Sto} {N : Env → Sto → Prop} {q : D → Sto → Prop}
theorem for_go {turn : D → Env → Sto → RS} (I : Nat → Env → Sto → Prop) : ∀ (xs : List D) (j : Nat) (ρ : Env) (Ω : Sto), (∀ i x ρ Ω, xs[i]? = some x → I (j + i) ρ Ω → SW (turn x ρ Ω) (I (j + i + 1)) q) → (∀ ρ Ω, I (j + xs.length) ρ Ω → N ρ Ω) → I j ρ Ω → SW (forD turn xs ρ Ω) N q
  | [], j, ρ, Ω, _, fin, h => fin ρ Ω h
  | x :: xs, j, ρ, Ω, step, fin, h => by
    have h1 := step 0 x ρ Ω rfl h
    show SW (match turn x ρ Ω with | .ok (.nx ρ') Ω' => forD turn xs ρ' Ω' | .ok (.ct ρ') Ω' => forD turn xs ρ' Ω' | .ok (.bk ρ') Ω' => .ok (.nx ρ') Ω' | r => r) N q
    cases e : turn x ρ Ω with
    | ok f Ω2 =>
      rw [e] at h1
      cases f with
      | nx ρ' =>
        refine for_go I xs (j + 1) ρ' Ω2 (fun i y ρ Ω hy hi => ?_) (fun ρ Ω hi => fin ρ Ω ?_) h1
        · have := step (i + 1) y ρ Ω (by simpa using hy) (by rw [show j + (i + 1) = j + 1 + i by omega]; exact hi)
          rw [show j + (i + 1) + 1 = j + 1 + i + 1 by omega] at this
          exact this
        · rw [List.length_cons, show j + (xs.length + 1) = j + 1 + xs.length by omega]; exact hi
      | rt d => exact h1
      | bk ρ' => exact False.elim h1
      | ct ρ' => exact False.elim h1
    | ex x ρ' Ω2 => rw [e] at h1; exact False.elim h1
    | bad => rw [e] at h1; exact False.elim h1
theorem for_of {turn : D → Env → Sto → RS} {xs : List D} (I : Nat → Env → Sto → Prop) (h0 : I 0 ρ Ω) (step : ∀ i x ρ Ω, xs[i]? = some x → I i ρ Ω → SW (turn x ρ Ω) (I (i + 1)) q) (fin : ∀ ρ Ω, I xs.length ρ Ω → N ρ Ω) : SW (forD turn xs ρ Ω) N q :=
  for_go I xs 0 ρ Ω (fun i x ρ Ω hx hi => by rw [Nat.zero_add] at hi ⊢; exact step i x ρ Ω hx hi) (fun ρ Ω hi => fin ρ Ω (by simpa using hi)) h0
theorem lc_go {turn : D → Sto → R (Option D)} {Q : List D → Sto → Prop} (I : Nat → List D → Sto → Prop) : ∀ (xs : List D) (j : Nat) (acc : List D) (Ω : Sto), acc.length + xs.length ≤ big →
    (∀ i x acc Ω, xs[i]? = some x → I (j + i) acc Ω → RW (turn x Ω) fun o Ω' => I (j + i + 1) (acc ++ o.toList) Ω') → (∀ acc Ω, I (j + xs.length) acc Ω → Q acc Ω) → I j acc Ω → RW (lcD turn xs acc Ω) Q
  | [], j, acc, Ω, _, _, fin, h => fin acc Ω h
  | x :: xs, j, acc, Ω, hb, step, fin, h => by
    have h1 := step 0 x acc Ω rfl h
    rw [lcD, RW_bind, RW_nx]
    refine h1.mono fun o Ω' ho => ?_
    have rest : ∀ acc' : List D, acc'.length + xs.length ≤ big → I (j + 1) acc' Ω' → RW (lcD turn xs acc' Ω') Q := fun acc' hl hi => by
      refine lc_go I xs (j + 1) acc' Ω' hl (fun i y ac Ω hy hi => ?_) (fun ac Ω hi => fin ac Ω ?_) hi
      · have := step (i + 1) y ac Ω (by simpa using hy) (by rw [show j + (i + 1) = j + 1 + i by omega]; exact hi)
        rw [show j + (i + 1) + 1 = j + 1 + i + 1 by omega] at this
        exact this
      · rw [List.length_cons, show j + (xs.length + 1) = j + 1 + xs.length by omega]; exact hi
    rw [List.length_cons] at hb
    cases o with
    | none => exact rest acc (by omega) (by simpa using ho)
    | some d =>
      show RW (if acc.length < big then lcD turn xs (acc ++ [d]) Ω' else .bad) Q
      rw [if_pos (by omega)]
      exact rest (acc ++ [d]) (by rw [List.length_append, List.length_singleton]; omega) ho
theorem lc_of {turn : D → Sto → R (Option D)} {Q : List D → Sto → Prop} {xs : List D} (I : Nat → List D → Sto → Prop) (hb : xs.length ≤ big) (h0 : I 0 [] Ω)
    (step : ∀ i x acc Ω, xs[i]? = some x → I i acc Ω → RW (turn x Ω) fun o Ω' => I (i + 1) (acc ++ o.toList) Ω') (fin : ∀ acc Ω, I xs.length acc Ω → Q acc Ω) : RW (lcD turn xs [] Ω) Q :=
  lc_go I xs 0 [] Ω (by simpa using hb) (fun i x acc Ω hx hi => by rw [Nat.zero_add] at hi ⊢; exact step i x acc Ω hx hi) (fun acc Ω hi => fin acc Ω (by simpa using hi)) h0
theorem lc_pure {turn : D → Sto → R (Option D)} {Q : List D → Sto → Prop} {xs : List D} (h : D → Option D) (hb : xs.length ≤ big) (e : ∀ x, x ∈ xs → RW (turn x Ω) fun o Ω' => o = h x ∧ Ω' = Ω) (fin : Q (xs.filterMap h) Ω) : RW (lcD turn xs [] Ω) Q := by
  refine lc_of (fun i acc Ω' => Ω' = Ω ∧ acc = (xs.take i).filterMap h) hb ⟨rfl, by simp⟩ (fun i x acc Ω' hx hi => ?_) (fun acc Ω' hi => ?_)
  · obtain ⟨rfl, rfl⟩ := hi
    refine (e x (List.mem_of_getElem? hx)).mono fun o Ω2 ho => ?_
    obtain ⟨rfl, rfl⟩ := ho
    refine ⟨rfl, ?_⟩
    rw [List.take_add_one, hx, List.filterMap_append]
    cases e2 : h x with
    | none => simp [e2]
    | some d => simp [e2]
  · obtain ⟨rfl, rfl⟩ := hi
    rw [List.take_length]
    exact fin
end
def frac (r : Rat) : D := .tup [.int r.num, .int (r.den : Int)]
def sz (r : Rat) (k : Nat) : Prop := r.num.natAbs < 2 ^ k ∧ r.den < 2 ^ k
def LowS (g : List D → Sto → R D) : Prop := ∀ (t b : Int) Ω, 0 < b → t.natAbs < 2 ^ 400000 → b.natAbs < 2 ^ 8999 → g [.int t, .int b] Ω = .ok (frac (Rat.divInt t b)) Ω
end Rf
end
section
namespace Rf
open PySem L2
def LowZ (g : List D → Sto → R D) : Prop := ∀ (t b : Int) Ω, b ≠ 0 → t.natAbs < 2 ^ 400000 → b.natAbs < 2 ^ 8999 → g [.int t, .int b] Ω = .ok (frac (Rat.divInt t b)) Ω
theorem LowZ.s {g : List D → Sto → R D} (h : LowZ g) : LowS g := fun t b Ω hb => h t b Ω (by omega)
theorem sz.mono {r : Rat} {k l : Nat} (h : sz r k) (hl : k ≤ l) : sz r l := ⟨Nat.lt_of_lt_of_le h.1 (Nat.pow_le_pow_right (by decide) hl), Nat.lt_of_lt_of_le h.2 (Nat.pow_le_pow_right (by decide) hl)⟩
theorem up4 {a k : Nat} (h : a < 2 ^ k) (hk : k ≤ 490000) : a < 2 ^ 490000 := Nat.lt_of_lt_of_le h (Nat.pow_le_pow_right (by decide) hk)
section
variable {ft : FT} {x y : Rat} {k l : Nat}
end
end Rf
end
section
namespace Rf
open PySem L2
theorem sz_divInt {t b : Int} {n : Nat} (hb : 0 < b) (h1 : t.natAbs < 2 ^ n) (h2 : b.natAbs < 2 ^ n) : sz (Rat.divInt t b) n := by
  constructor
  · rw [Rat.num_divInt, Int.sign_eq_one_of_pos hb, Int.one_mul]
    have := Int.natAbs_ediv_le_natAbs t (b.gcd t : Int)
    omega
  · rw [Rat.den_divInt, if_neg (by omega)]
    exact Nat.lt_of_le_of_lt (Nat.div_le_self _ _) h2
def GD (d : D) : Prop := ∃ p, toPy d = some p ∧ p.canLay0 = true ∧ p.depth ≤ 50
def OneS (g : List D → Sto → R D) : Prop := ∀ Ω s b c xs, Sp Ω s b c → c < 2 ^ 40 → xs ≠ [] → xs.length < 2 ^ 59 → ∃ d Ω', g [.hd s, .lst xs] Ω = .ok d Ω' ∧ d ∈ xs ∧ Sp Ω' s b (c + 1) ∧ Kp s b Ω Ω'
theorem atI_in {α : Type} {xs : List α} {i : Int} (h0 : 0 ≤ i) (h1 : i < xs.length) : ∃ x, atI xs i = some x ∧ x ∈ xs := by
  unfold atI
  rw [ixN_lit h0 h1]
  have : i.toNat < xs.length := by omega
  exact ⟨xs[i.toNat], by simp [List.getElem?_eq_getElem this], List.getElem_mem _⟩
theorem one_okL {ft : FT} (h : Has ft "_law_take" TakeS) (hd : ft.dfl "_law_take" = []) : OneS (runD ft 2 2 C.s__law_one) := by
  intro Ω s b c xs hs hc hx hl
  refine run_of rfl ?_
  show SW (exL ft C.s__law_one [some (.hd s), some (.lst xs)] Ω) _ _
  unfold C.s__law_one
  rw [SW_cons]
  simp_arith only [hd]
  have hp : 0 < xs.length := List.length_pos_iff.mpr hx
  refine call_of h fun g hg => ?_
  obtain ⟨v, Ω', e, v0, v1, s1, k1⟩ := hg Ω s b c xs.length hs hc (by omega) (by omega)
  refine ⟨_, _, e, ?_⟩
  simp_arith only [hd]
  obtain ⟨x, e1, e2⟩ := atI_in v0 v1
  simp_arith only [e1]
  exact ⟨e2, s1, k1⟩
theorem Sp.lt {Ω : Sto} {s b : Nat} {c : Int} (h : Sp Ω s b c) : s < Ω.length ∧ b < Ω.length := by
  obtain ⟨_, _, _, _, h1, h2, _⟩ := h
  exact ⟨(List.getElem?_eq_some_iff.mp h1).1, (List.getElem?_eq_some_iff.mp h2).1⟩
theorem Sp.at_ {Ω Ω' : Sto} {s b : Nat} {c c' : Int} (h : Sp Ω s b c) (h1 : Ω'[s]? = Ω[s]?) (h2 : Ω'[b]? = Ω[b]?) (hc : c ≤ c') : Sp Ω' s b c' := by
  obtain ⟨a1, a2, a3, a4, g1, g2, g3, g4, g5⟩ := h
  exact ⟨a1, a2, a3, a4, h1.trans g1, h2.trans g2, g3, g4, by omega⟩
end Rf
end
section
namespace Rf
open PySem L2
def SpringS (g : List D → Sto → R D) : Prop := ∀ ns : List Int, ns.length ≤ 63 → ∃ s b Ω', g [.scr ns] [] = .ok (.hd s) Ω' ∧ Sp Ω' s b 0
theorem spring_ok {ft : FT} : SpringS (runD ft 1 3 C.s__law_spring) := by
  intro ns hl
  suffices h : ∃ e Ω', runD ft 1 3 C.s__law_spring [.scr ns] [] = .ok e Ω' ∧ ∃ s b, e = .hd s ∧ Sp Ω' s b 0 by
    obtain ⟨e, Ω', e1, s, b, rfl, h⟩ := h
    exact ⟨s, b, Ω', e1, h⟩
  refine run_of rfl ?_
  show SW (exL ft C.s__law_spring [some (.scr ns), none, none] []) _ _
  unfold C.s__law_spring
  have hp : op2D .Pow (.int 10) (.int 18) = some (.int (10 ^ 18)) := by rw [powi, if_pos ⟨by decide, by decide, by decide⟩]; rfl
  rw [SW_cons]
  simp_arith only [iterD, seqD, hp]
  have key : ∀ (p : Int → Bool) (ms : List Int), (ms.map D.int).filterMap (fun d => match d with | .int i => if p i then some (D.int i) else none | _ => none) = (ms.filter p).map .int := fun p ms => by
    induction ms with
    | nil => rfl
    | cons m ms ih =>
      rw [List.map_cons, List.filterMap_cons, ih, List.filter_cons]
      by_cases h : p m = true <;> simp [h]
  refine lc_pure (fun d => match d with | .int i => if decide (i < 10 ^ 18) then some (D.int i) else none | _ => none) (by rw [List.length_map]; unfold big; omega) (fun x hx => ?_) ?_
  · obtain ⟨i, _, rfl⟩ := List.mem_map.mp hx
    simp_arith only [hp]
    generalize (10 ^ 18 : Int) = T
    by_cases h : i < T
    · rw [if_pos (by simpa using h)]
      simp_arith only []
      exact ⟨by rw [if_pos (by simpa using h)], trivial⟩
    · rw [if_neg (by simpa using h)]
      exact ⟨by show none = if decide (i < T) = true then some (D.int i) else none; rw [if_neg (by simpa using h)], rfl⟩
  · simp_arith only [key]
    rw [SW_cons]
    simp_arith only [iterD, seqD, hp]
    refine lc_pure (fun d => match d with | .int i => if decide (10 ^ 18 ≤ i) then some (D.int i) else none | _ => none) (by rw [List.length_map]; unfold big; omega) (fun x hx => ?_) ?_
    · obtain ⟨i, _, rfl⟩ := List.mem_map.mp hx
      simp_arith only [hp]
      generalize (10 ^ 18 : Int) = T
      by_cases h : T ≤ i
      · rw [if_pos (by simpa using h)]
        simp_arith only []
        exact ⟨by rw [if_pos (by simpa using h)], trivial⟩
      · rw [if_neg (by simpa using h)]
        exact ⟨by show none = if decide (T ≤ i) = true then some (D.int i) else none; rw [if_neg (by simpa using h)], rfl⟩
    · simp_arith only [key]
      exact ⟨1, 0, rfl, _, 0, _, 0, rfl, rfl, by decide, by decide, by decide⟩
def sortS (ss : List Str) : List Str := (once ss).mergeSort leS
end Rf
end
section
namespace Rf
open PySem L2
def ShareOk (r : Rat) : Prop := 0 ≤ r.num ∧ r.num ≤ r.den ∧ sz r 400
theorem Sp.le {Ω : Sto} {s b : Nat} {c c' : Int} (h : Sp Ω s b c) (hc : c ≤ c') : Sp Ω s b c' := h.at_ rfl rfl hc
end Rf
end
section
namespace Rf
open PySem L2
def abc : List Nat := ("abcdefghijklmnopqrstuvwxyz" : Str).cps.toList
def alnum : List Nat := (("abcdefghijklmnopqrstuvwxyz" : Str) ++ ("0123456789" : Str)).cps.toList
def NameOk (s : Str) : Prop := ∃ h t, s.cps.toList = h :: t ∧ h ∈ abc ∧ (∀ x ∈ t, x ∈ alnum) ∧ t.length ≤ 7 ∧ (t.length = 3 → h ≠ 122)
end Rf
end
section
namespace Rf
open PySem L2
theorem len_of_sub {α : Type} [DecidableEq α] : ∀ {l m : List α}, l.Nodup → (∀ x ∈ l, x ∈ m) → l.length ≤ m.length
  | [], m, _, _ => Nat.zero_le _
  | x :: l, m, nd, h => by
    have hx := h x (List.mem_cons_self ..)
    have := len_of_sub (l := l) (m := m.erase x) (List.nodup_cons.mp nd).2 fun y hy => by
      have hy' := h y (List.mem_cons_of_mem _ hy)
      have ne : y ≠ x := fun e => (List.nodup_cons.mp nd).1 (e ▸ hy)
      exact (List.mem_erase_of_ne ne).mpr hy'
    rw [List.length_erase_of_mem hx] at this
    have : 0 < m.length := List.length_pos_of_mem hx
    rw [List.length_cons]
    omega
end Rf
end
section
namespace Rf
open PySem L2
def ltS (a b : Str) : Prop := a.cps.toList < b.cps.toList
def Asc (ns : List Str) : Prop := ns.Pairwise ltS
def pr (p : Str × Str) : D := .tup [.str p.1, .str p.2]
def ltP (p q : Str × Str) : Prop := ltS p.1 q.1 ∨ (p.1 = q.1 ∧ ltS p.2 q.2)
def AscP (ls : List (Str × Str)) : Prop := ls.Pairwise ltP
def LinksOk (ns : List Str) (ls : List (Str × Str)) : Prop := ∀ p ∈ ls, p.1 ∈ ns ∧ p.2 ∈ ns ∧ ltS p.1 p.2
end Rf
end
section
namespace Rf
open PySem L2
structure HouseOk (ns : List Str) (f : Str → Rat) (ls : List (Str × Str)) : Prop where
  asc : Asc ns
  nm : ∀ n ∈ ns, NameOk n
  len : ns.length ≤ 12
  sh : ∀ n ∈ ns, ShareOk (f n)
  lk : LinksOk ns ls
  ll : ls.length ≤ 50
  ac : AscP ls
end Rf
end
section
namespace Rf
open PySem L2
theorem run_eq {ft : FT} {np n : Nat} {b : SL} {ds : List D} {Ω : Sto} {d : D} (hl : ds.length = np) (h : SW (exL ft b (ds.map some ++ List.replicate (n - ds.length) none) Ω) (fun _ Ω' => D.non = d ∧ Ω' = Ω) (fun e Ω' => e = d ∧ Ω' = Ω)) : runD ft np n b ds Ω = .ok d Ω := by
  obtain ⟨e, Ω', e1, rfl, rfl⟩ := run_of (P := fun e Ω' => e = d ∧ Ω' = Ω) hl h
  exact e1
section
variable (cls : List Str) (i : Int) (xs : List D) (s : Str)
theorem li : isTys cls (.lst xs) [.int] = some false := rfl
theorem ll : isTys cls (.lst xs) [.list, .tuple] = some true := rfl
theorem tl : isTys cls (.tup xs) [.list, .tuple] = some true := rfl
end
def IsIntS (g : List D → Sto → R D) : Prop := (∀ i Ω, g [.int i] Ω = .ok (.bl true) Ω) ∧ (∀ xs Ω, g [.lst xs] Ω = .ok (.bl false) Ω) ∧ (∀ xs Ω, g [.tup xs] Ω = .ok (.bl false) Ω)
def IsListS (g : List D → Sto → R D) : Prop := (∀ i Ω, g [.int i] Ω = .ok (.bl false) Ω) ∧ (∀ xs Ω, g [.lst xs] Ω = .ok (.bl true) Ω) ∧ (∀ xs Ω, g [.tup xs] Ω = .ok (.bl true) Ω) ∧ (∀ Ω, g [.e0] Ω = .ok (.bl true) Ω)
structure PairD (d : D) (a b : Int) : Prop where
  lk : ∀ Ω, lk Ω d = d
  len : biD .len [d] = some (.int 2)
  it : iterD d = some [.int a, .int b]
  i0 : idxD d (.int 0) = some (.int a)
  i1 : idxD d (.int 1) = some (.int b)
  ni : ∀ g, IsIntS g → ∀ Ω, g [d] Ω = .ok (.bl false) Ω
  isl : ∀ g, IsListS g → ∀ Ω, g [d] Ω = .ok (.bl true) Ω
end Rf
end
section
namespace Rf
open PySem L2
structure Gr (Ω Ω' : Sto) : Prop where
  len : Ω.length ≤ Ω'.length
  at_ : ∀ i, i < Ω.length → Ω'[i]? = Ω[i]?
theorem Gr.refl {Ω : Sto} : Gr Ω Ω := ⟨Nat.le_refl _, fun _ _ => rfl⟩
theorem Gr.trans {Ω Ω' Ω'' : Sto} (h : Gr Ω Ω') (h' : Gr Ω' Ω'') : Gr Ω Ω'' := ⟨Nat.le_trans h.len h'.len, fun i hi => (h'.at_ i (Nat.lt_of_lt_of_le hi h.len)).trans (h.at_ i hi)⟩
theorem Gr.kp {Ω Ω' : Sto} (h : Gr Ω Ω') (s b : Nat) : Kp s b Ω Ω' := ⟨h.len, fun i hi _ _ => h.at_ i hi⟩
theorem Gr.sp {Ω Ω' : Sto} {s b : Nat} {c : Int} (h : Gr Ω Ω') (hs : Sp Ω s b c) : Sp Ω' s b c := hs.at_ (h.at_ _ hs.lt.1) (h.at_ _ hs.lt.2) (Int.le_refl _)
end Rf
end
section
namespace Rf
open PySem L2
def others (ts : List (Str × Str)) (n : Str) : List Str := ts.flatMap fun p => if n = p.1 ∨ n = p.2 then [p.1, p.2].filter fun x => !decide (x = n) else []
def nb (ts : List (Str × Str)) (n : Str) : List Str := sortS (others ts n)
end Rf
end
section
namespace Rf
open PySem L2
structure Kq (k : Nat) (Ω Ω' : Sto) : Prop where
  len : Ω.length ≤ Ω'.length
  at_ : ∀ i, i < Ω.length → i ≠ k → Ω'[i]? = Ω[i]?
end Rf
end
section
namespace Fm
section
variable {α : Type} [DecidableEq α]
def grow (F : List (List α)) : List α → List (List α)
  | [] => F
  | x :: l => grow (F ++ F.map (· ++ [x])) l
def parts (l : List α) : List (List α) := grow [[]] l
theorem grow_perm {A B : List (List α)} (h : A.Perm B) (l : List α) : (grow A l).Perm (grow B l) := by
  induction l generalizing A B with
  | nil => exact h
  | cons x l ih => exact ih (h.append (h.map _))
theorem grow_append (A B : List (List α)) (l : List α) : (grow (A ++ B) l).Perm (grow A l ++ grow B l) := by
  induction l generalizing A B with
  | nil => exact .refl _
  | cons x l ih =>
    refine (grow_perm ?_ l).trans (ih (A ++ A.map (· ++ [x])) (B ++ B.map (· ++ [x])))
    rw [List.map_append, List.append_assoc, List.append_assoc]
    refine List.Perm.append_left A ?_
    rw [← List.append_assoc, ← List.append_assoc]
    exact List.Perm.append_right _ List.perm_append_comm
theorem grow_map (n : α) (A : List (List α)) (l : List α) : grow (A.map (n :: ·)) l = (grow A l).map (n :: ·) := by
  induction l generalizing A with
  | nil => rfl
  | cons x l ih =>
    rw [grow, grow, ← ih]
    congr 1
    rw [List.map_append, List.map_map, List.map_map]
    rfl
theorem parts_cons (n : α) (l : List α) : (parts (n :: l)).Perm (parts l ++ (parts l).map (n :: ·)) := by
  show (grow ([[]] ++ [[n]]) l).Perm _
  refine (grow_append _ _ l).trans ?_
  rw [show ([[n]] : List (List α)) = [[]].map (n :: ·) from rfl, grow_map]
  exact .refl _
def T : (List α → Rat) → List α → Rat
  | g, [] => g []
  | g, x :: l => T g l + T (fun P => g (x :: P)) l
variable (adj : α → α → Bool) (f : α → Rat)
def far (n : α) (r : List α) : List α := r.filter fun x => !adj n x
def fs : List α → Rat
  | [] => 1
  | n :: r => fs r - f n * fs (far adj n r)
termination_by l => l.length
decreasing_by
  · simp
  · simp only [List.length_cons]; exact Nat.lt_succ_of_le (List.length_filter_le _ _)
def free (P : List α) : Bool := P.all fun a => P.all fun b => !adj a b
variable {adj} {f}
end
end Fm
end
section
namespace Rf
open PySem L2
def far (ts : List (Str × Str)) (n : Str) (r : List Str) : List Str := r.filter fun x => !decide (x ∈ nb ts n)
theorem far_len (ts : List (Str × Str)) (n : Str) (r : List Str) : (far ts n r).length ≤ r.length := List.length_filter_le _ _
def FS (f : Str → Rat) (ts : List (Str × Str)) : List Str → Rat
  | [] => 1
  | n :: r => FS f ts r - f n * FS f ts (far ts n r)
termination_by l => l.length
decreasing_by
  · simp
  · simp only [List.length_cons]; exact Nat.lt_succ_of_le (far_len _ _ _)
def Bd (D B : Nat) (r : Rat) : Prop := ∃ a : Int, r = Rat.divInt a D ∧ a.natAbs ≤ B
theorem Bd.neg {D B : Nat} {x : Rat} (h : Bd D B x) : Bd D B (-x) := by
  obtain ⟨a, rfl, ha⟩ := h
  exact ⟨-a, by rw [Rat.neg_divInt], by omega⟩
theorem Bd.mono {D B C : Nat} {x : Rat} (h : Bd D B x) (hb : B ≤ C) : Bd D C x := by
  obtain ⟨a, e, ha⟩ := h
  exact ⟨a, e, by omega⟩
theorem Bd.zero {D : Nat} : Bd D 0 0 := ⟨0, by simp, by simp⟩
theorem Bd.sz {D B k : Nat} {x : Rat} (h : Bd D B x) (h0 : 0 < D) (h1 : D < 2 ^ k) (h2 : B < 2 ^ k) : sz x k := by
  obtain ⟨a, rfl, ha⟩ := h
  exact sz_divInt (by omega) (by omega) (by omega)
theorem Bd.up {D B c : Nat} {x : Rat} (h : Bd D B x) (hc : 0 < c) : Bd (D * c) (B * c) x := by
  obtain ⟨a, rfl, ha⟩ := h
  refine ⟨a * c, ?_, ?_⟩
  · push_cast
    rw [Rat.divInt_mul_right (by omega)]
  · rw [Int.natAbs_mul]
    exact Nat.mul_le_mul ha (by simp)
def Memo (f : Str → Rat) (ts : List (Str × Str)) (kvs : List (List Key × D)) : Prop := ∀ (ss : List Str) v, getK kvs (ss.map fun s => (Sum.inr s : Key)) = some v → v = frac (FS f ts ss)
theorem Kq.refl {k : Nat} {Ω : Sto} : Kq k Ω Ω := ⟨Nat.le_refl _, fun _ _ _ => rfl⟩
theorem Kq.trans {k : Nat} {Ω Ω' Ω'' : Sto} (h : Kq k Ω Ω') (h' : Kq k Ω' Ω'') : Kq k Ω Ω'' := ⟨Nat.le_trans h.len h'.len, fun i hi hk => (h'.at_ i (Nat.lt_of_lt_of_le hi h.len) hk).trans (h.at_ i hi hk)⟩
structure MemoOk (ns : List Str) (f : Str → Rat) (ts : List (Str × Str)) (kvs : List (List Key × D)) : Prop where
  ok : Memo f ts kvs
  nd : (kvs.map (·.1)).Nodup
  sub : ∀ k ∈ kvs.map (·.1), ∃ P : List Str, P.Sublist ns ∧ k = P.map fun s => (Sum.inr s : Key)
theorem MemoOk.nil {ns : List Str} {f : Str → Rat} {ts : List (Str × Str)} : MemoOk ns f ts [] := ⟨fun ss v hv => (by cases hv), List.Pairwise.nil, fun k hk => (by cases hk)⟩
theorem sub_parts {α : Type} [DecidableEq α] {ss P : List α} (h : P.Sublist ss) : P ∈ Fm.parts ss := by
  induction h with
  | slnil => exact List.mem_singleton.mpr rfl
  | cons x _ ih => exact (Fm.parts_cons _ _).mem_iff.mpr (List.mem_append_left _ ih)
  | cons_cons x _ ih => exact (Fm.parts_cons _ _).mem_iff.mpr (List.mem_append_right _ (List.mem_map.mpr ⟨_, ih, rfl⟩))
theorem parts_len {α : Type} [DecidableEq α] (ss : List α) : (Fm.parts ss).length = 2 ^ ss.length := by
  induction ss with
  | nil => rfl
  | cons x l ih => rw [(Fm.parts_cons x l).length_eq, List.length_append, List.length_map, ih, List.length_cons, Nat.pow_succ]; omega
theorem MemoOk.len {ns : List Str} {f : Str → Rat} {ts : List (Str × Str)} {kvs : List (List Key × D)} (h : MemoOk ns f ts kvs) : kvs.length ≤ 2 ^ ns.length := by
  rw [← parts_len ns, ← List.length_map (f := fun kv : List Key × D => kv.1), ← List.length_map (f := fun P : List Str => P.map fun s => (Sum.inr s : Key))]
  refine len_of_sub h.nd fun k hk => ?_
  obtain ⟨P, hP, rfl⟩ := h.sub k hk
  exact List.mem_map.mpr ⟨P, sub_parts hP, rfl⟩
end Rf
end
section
namespace Rf
open PySem L2
theorem getK_cons {κ : Type} [DecidableEq κ] (x : κ × D) (l : List (κ × D)) (k : κ) : getK (x :: l) k = if x.1 = k then some x.2 else getK l k := by
  unfold getK
  rw [List.find?_cons]
  by_cases h : x.1 = k <;> simp [h]
theorem getK_app {κ : Type} [DecidableEq κ] (l : List (κ × D)) (x : κ × D) (k : κ) (h : getK l x.1 = none) : getK (l ++ [x]) k = if k = x.1 then some x.2 else getK l k := by
  induction l with
  | nil => rw [List.nil_append, getK_cons]; by_cases e : x.1 = k
           · rw [if_pos e, if_pos e.symm]
           · rw [if_neg e, if_neg (fun z => e z.symm)]
  | cons y l ih =>
    rw [List.cons_append, getK_cons, getK_cons]
    rw [getK_cons] at h
    by_cases e : y.1 = x.1
    · rw [if_pos e] at h; cases h
    · rw [if_neg e] at h
      rw [ih h]
      by_cases e2 : y.1 = k
      · rw [if_pos e2, if_pos e2, if_neg (fun z => e (e2.trans z))]
      · rw [if_neg e2, if_neg e2]
theorem any_none {κ : Type} [DecidableEq κ] {l : List (κ × D)} {k : κ} (h : getK l k = none) : l.any (fun kv => decide (kv.1 = k)) = false := by
  induction l with
  | nil => rfl
  | cons y l ih =>
    rw [getK_cons] at h
    by_cases e : y.1 = k
    · rw [if_pos e] at h; cases h
    · rw [if_neg e] at h
      rw [List.any_cons, ih h]; simp [e]
theorem put_same {κ : Type} [DecidableEq κ] {l : List (κ × D)} {k : κ} {v : D} : ∀ k', getK (putKD l k v) k' = if k' = k then some v else getK l k' := by
  intro k'
  cases h : getK l k with
  | none =>
    unfold putKD
    rw [if_neg (by rw [any_none h]; exact Bool.false_ne_true)]
    exact getK_app l (k, v) k' h
  | some w =>
    have ha : l.any (fun kv => decide (kv.1 = k)) = true := by
      induction l with
      | nil => cases h
      | cons y l ih =>
        rw [getK_cons] at h
        rw [List.any_cons]
        by_cases e : y.1 = k
        · simp [e]
        · rw [if_neg e] at h
          rw [ih h]; simp
    unfold putKD
    rw [if_pos ha]
    clear ha
    induction l with
    | nil => cases h
    | cons y l ih =>
      rw [List.map_cons, getK_cons, getK_cons]
      rw [getK_cons] at h
      by_cases e : y.1 = k
      · rw [if_pos e]
        by_cases e2 : k' = k
        · rw [if_pos (by rw [e2]; exact e), if_pos e2]
        · have e3 : ¬ y.1 = k' := fun z => e2 (z.symm.trans e)
          rw [if_neg e3, if_neg e2, if_neg e3]
          clear ih h
          induction l with
          | nil => rfl
          | cons z l ih2 =>
            rw [List.map_cons, getK_cons, getK_cons, ih2]
            by_cases e4 : z.1 = k
            · have e5 : ¬ z.1 = k' := fun w => e2 (w.symm.trans e4)
              rw [if_pos e4, if_neg e5, if_neg e5]
            · rw [if_neg e4]
      · rw [if_neg e] at h
        rw [if_neg e, ih h]
        by_cases e2 : y.1 = k'
        · rw [if_pos e2, if_pos e2, if_neg (fun z => e (e2.trans z))]
        · rw [if_neg e2, if_neg e2]
theorem Memo.put {f : Str → Rat} {ts : List (Str × Str)} {kvs : List (List Key × D)} {ss : List Str} (h : Memo f ts kvs) : Memo f ts (putKD kvs (ss.map fun s => (Sum.inr s : Key)) (frac (FS f ts ss))) := by
  intro us v e
  rw [put_same] at e
  by_cases hu : (us.map fun s => (Sum.inr s : Key)) = ss.map fun s => (Sum.inr s : Key)
  · rw [if_pos hu] at e
    cases e
    have : us = ss := (List.map_inj_right (fun a b h => Sum.inr.inj h)).mp hu
    rw [this]
  · rw [if_neg hu] at e
    exact h us v e
theorem put_keys {κ : Type} [DecidableEq κ] (l : List (κ × D)) (k : κ) (v : D) : (putKD l k v).map (·.1) = if k ∈ l.map (·.1) then l.map (·.1) else l.map (·.1) ++ [k] := by
  have e : (l.any fun kv => decide (kv.1 = k)) = true ↔ k ∈ l.map (·.1) := by
    rw [List.any_eq_true, List.mem_map]
    constructor
    · rintro ⟨x, hx, h⟩; exact ⟨x, hx, of_decide_eq_true h⟩
    · rintro ⟨x, hx, h⟩; exact ⟨x, hx, decide_eq_true h⟩
  unfold putKD
  by_cases h : k ∈ l.map (·.1)
  · rw [if_pos (e.mpr h), if_pos h, List.map_map]
    refine List.map_congr_left fun x _ => ?_
    show (if x.1 = k then (x.1, v) else x).1 = x.1
    split <;> rfl
  · rw [if_neg (fun z => h (e.mp z)), if_neg h, List.map_append]; rfl
theorem put_nd {κ : Type} [DecidableEq κ] {l : List (κ × D)} {k : κ} {v : D} (h : (l.map (·.1)).Nodup) : ((putKD l k v).map (·.1)).Nodup := by
  rw [put_keys]
  by_cases hk : k ∈ l.map (·.1)
  · rw [if_pos hk]; exact h
  · rw [if_neg hk]
    refine List.nodup_append.mpr ⟨h, List.pairwise_singleton _ _, fun a ha b hb e => ?_⟩
    have : b = k := by simpa using hb
    subst this
    subst e
    exact hk ha
theorem MemoOk.put {ns : List Str} {f : Str → Rat} {ts : List (Str × Str)} {kvs : List (List Key × D)} {ss : List Str} (h : MemoOk ns f ts kvs) (hs : ss.Sublist ns) : MemoOk ns f ts (putKD kvs (ss.map fun s => (Sum.inr s : Key)) (frac (FS f ts ss))) := by
  refine ⟨h.ok.put, put_nd h.nd, fun k hk => ?_⟩
  rw [put_keys] at hk
  split at hk
  · exact h.sub k hk
  · rcases List.mem_append.mp hk with hk | hk
    · exact h.sub k hk
    · have : k = ss.map fun s => (Sum.inr s : Key) := by simpa using hk
      exact ⟨ss, hs, this⟩
end Rf
end
section
namespace Rf
open PySem L2
theorem lc_map {α : Type} {Ω : Sto} {turn : D → Sto → R (Option D)} {Q : List D → Sto → Prop} (g : α → D) (k : α → Option D) {xs : List α} (hb : xs.length ≤ big) (e : ∀ x, x ∈ xs → RW (turn (g x) Ω) fun o Ω' => o = k x ∧ Ω' = Ω) (fin : Q (xs.filterMap k) Ω) : RW (lcD turn (xs.map g) [] Ω) Q := by
  have go : ∀ (xs : List α) (acc : List D), acc.length + xs.length ≤ big → (∀ x, x ∈ xs → RW (turn (g x) Ω) fun o Ω' => o = k x ∧ Ω' = Ω) → Q (acc ++ xs.filterMap k) Ω → RW (lcD turn (xs.map g) acc Ω) Q := by
    intro xs
    induction xs with
    | nil => intro acc _ _ fin; rw [List.filterMap_nil, List.append_nil] at fin; exact fin
    | cons x xs ih =>
      intro acc hb e fin
      rw [List.length_cons] at hb
      rw [List.map_cons, lcD, RW_bind, RW_nx]
      refine (e x (List.mem_cons_self ..)).mono fun o Ω' ho => ?_
      obtain ⟨rfl, rfl⟩ := ho
      have e' : ∀ y, y ∈ xs → RW (turn (g y) Ω') fun o Ω'' => o = k y ∧ Ω'' = Ω' := fun y hy => e y (List.mem_cons_of_mem _ hy)
      rw [List.filterMap_cons] at fin
      cases hk : k x with
      | none => rw [hk] at fin; exact ih acc (by omega) e' fin
      | some d =>
        rw [hk] at fin
        show RW (if acc.length < big then lcD turn (xs.map g) (acc ++ [d]) Ω' else .bad) Q
        rw [if_pos (by omega)]
        exact ih (acc ++ [d]) (by rw [List.length_append, List.length_singleton]; omega) e' (by rw [List.append_assoc]; exact fin)
  exact go xs [] (by simpa using hb) e fin
theorem fmSome {α β : Type} (h : α → β) (xs : List α) : xs.filterMap (fun x => some (h x)) = xs.map h := by induction xs <;> simp_all
end Rf
end
section
namespace Rf
open PySem L2
theorem boolsD_map {α : Type} (h : α → Bool) (xs : List α) : boolsD (xs.map fun x => .bl (h x)) = some (xs.map h) := by
  induction xs with
  | nil => rfl
  | cons x xs ih => show (boolsD (xs.map fun x => .bl (h x))).map (h x :: ·) = _; rw [ih]; rfl
end Rf
end
section
namespace Rf
open PySem L2
def SmD : Nat → D → Prop
  | _, .int _ => True
  | _, .bl _ => True
  | _, .non => True
  | _, .str s => GD (.str s)
  | n + 1, .tup xs => xs.length ≤ 100000 ∧ ∀ x ∈ xs, SmD n x
  | n + 1, .lst xs => xs.length ≤ 100000 ∧ ∀ x ∈ xs, SmD n x
  | n + 1, .dk kvs => kvs.length ≤ 100000 ∧ (kvs.map (·.1)).Nodup ∧ ∀ kv ∈ kvs, SmD n kv.2
  | _, _ => False
def SameS (n : Nat) (g : List D → Sto → R D) : Prop := ∀ d Ω, SmD n d → g [d, d] Ω = .ok (.bl true) Ω
theorem SmD.succ : ∀ {n : Nat} {d : D}, SmD n d → SmD (n + 1) d
  | n, .int _, h => trivial
  | n, .bl _, h => trivial
  | n, .non, h => trivial
  | n, .str _, h => by cases n <;> exact h
  | n + 1, .tup xs, h => ⟨h.1, fun x hx => SmD.succ (h.2 x hx)⟩
  | n + 1, .lst xs, h => ⟨h.1, fun x hx => SmD.succ (h.2 x hx)⟩
  | n + 1, .dk kvs, h => ⟨h.1, h.2.1, fun x hx => SmD.succ (h.2.2 x hx)⟩
  | 0, .tup _, h => False.elim h
  | 0, .lst _, h => False.elim h
  | 0, .dk _, h => False.elim h
  | 0, .dt _, h => False.elim h
  | 0, .ins _ _, h => False.elim h
  | 0, .hd _, h => False.elim h
  | 0, .scr _, h => False.elim h
  | 0, .e0, h => False.elim h
  | 0, .exn _ _, h => False.elim h
  | n + 1, .dt _, h => False.elim h
  | n + 1, .ins _ _, h => False.elim h
  | n + 1, .hd _, h => False.elim h
  | n + 1, .scr _, h => False.elim h
  | n + 1, .e0, h => False.elim h
  | n + 1, .exn _ _, h => False.elim h
theorem SmD.frac (n : Nat) (r : Rat) : SmD (n + 1) (frac r) := by
  unfold Rf.frac
  refine ⟨by simp, fun x hx => ?_⟩
  simp only [List.mem_cons, List.not_mem_nil, or_false] at hx
  rcases hx with rfl | rfl <;> (cases n <;> trivial)
theorem eqD_bl (a b : Bool) : eqD (.bl a) (.bl b) = some (a == b) := by cases a <;> cases b <;> decide
theorem eqD_non : eqD .non .non = some true := by decide
theorem eqD_self_str {s : Str} (h : GD (.str s)) : eqD (.str s) (.str s) = some true := by
  obtain ⟨p, e1, e2, e3⟩ := h
  cases e1
  have s1 : SeqAt.shaped (.str s) = true := by
    unfold SeqAt.shaped
    rw [Bool.and_eq_true]
    exact ⟨e2, decide_eq_true (by omega)⟩
  unfold eqD
  have e : toPy (.str s) = some (.str s) := rfl
  simp only [e, s1, and_self, if_true]
  simp [PyData.eqv]
theorem zip_self_l (xs : List D) : zipD2 (.lst xs) (.lst xs) = some (xs.map fun x => .tup [x, x]) := by
  show some (List.zipWith (fun x y => D.tup [x, y]) xs xs) = _
  rw [List.zipWith_self]
theorem zip_self_t (xs : List D) : zipD2 (.tup xs) (.tup xs) = some (xs.map fun x => .tup [x, x]) := by
  show some (List.zipWith (fun x y => D.tup [x, y]) xs xs) = _
  rw [List.zipWith_self]
theorem all_const {α : Type} (xs : List α) : boolsD (xs.map fun _ => .bl true) = some (xs.map fun _ => true) := boolsD_map (fun _ => true) xs
theorem all_const2 {α : Type} (xs : List α) : (xs.map fun _ => true).all id = true := by induction xs <;> simp_all
theorem getK_mem {κ : Type} [DecidableEq κ] {kvs : List (κ × D)} (nd : (kvs.map (·.1)).Nodup) {kv : κ × D} (h : kv ∈ kvs) : getK kvs kv.1 = some kv.2 := by
  induction kvs with
  | nil => cases h
  | cons x l ih =>
    rw [getK_cons]
    rw [List.map_cons, List.nodup_cons] at nd
    rcases List.mem_cons.mp h with rfl | h
    · rw [if_pos rfl]
    · rw [if_neg, ih nd.2 h]
      intro e
      exact nd.1 (e ▸ List.mem_map.mpr ⟨kv, h, rfl⟩)
theorem keyD_kD (k : Key) : keyD (kD k) = some k := by cases k <;> rfl
theorem same_ok {ft : FT} {n : Nat} (h0 : ∀ m, n = m + 1 → Has ft "_law_same" (SameS m)) (hd : ft.dfl "_law_same" = []) : SameS n (runD ft 2 6 C.s__law_same) := by
  intro d Ω hS
  refine run_eq rfl ?_
  show SW (exL ft C.s__law_same [some d, some d, none, none, none, none] Ω) _ _
  unfold C.s__law_same
  rw [SW_cons]
  cases d with
  | int i =>
    have t1 : isTys ft.cls (.int i) [.dict] = some false := rfl
    have t2 : isTys ft.cls (.int i) [.list, .tuple] = some false := rfl
    have t3 : isTys ft.cls (.int i) [.int] = some true := rfl
    have t4 : isTys ft.cls (.int i) [.bool] = some false := rfl
    simp_arith only [t1]
    rw [SW_nil, SW_cons]
    simp_arith only [t2]
    rw [SW_nil, SW_cons]
    simp_arith only [t3]
    rw [SW_cons]
    simp_arith only [t4, eqD_bl]
    rw [SW_cons]
    simp_arith only [t3, beq_self_eq_true]
    exact ⟨trivial, trivial⟩
  | bl i =>
    have t1 : isTys ft.cls (.bl i) [.dict] = some false := rfl
    have t2 : isTys ft.cls (.bl i) [.list, .tuple] = some false := rfl
    have t3 : isTys ft.cls (.bl i) [.int] = some true := rfl
    have t4 : isTys ft.cls (.bl i) [.bool] = some true := rfl
    simp_arith only [t1]
    rw [SW_nil, SW_cons]
    simp_arith only [t2]
    rw [SW_nil, SW_cons]
    simp_arith only [t3]
    rw [SW_cons]
    simp_arith only [t4, eqD_bl]
    rw [SW_cons]
    simp_arith only [t3, eqD_bl, beq_self_eq_true]
    exact ⟨trivial, trivial⟩
  | non =>
    have t1 : isTys ft.cls .non [.dict] = some false := rfl
    have t2 : isTys ft.cls .non [.list, .tuple] = some false := rfl
    have t3 : isTys ft.cls .non [.int] = some false := rfl
    have t4 : isTys ft.cls .non [.int, .list, .tuple, .dict] = some false := rfl
    simp_arith only [t1]
    rw [SW_nil, SW_cons]
    simp_arith only [t2]
    rw [SW_nil, SW_cons]
    simp_arith only [t3]
    rw [SW_nil, SW_cons]
    simp_arith only [t4, eqD_non]
    exact ⟨trivial, trivial⟩
  | str s =>
    have hS : GD (.str s) := by cases n <;> exact hS
    have t1 : isTys ft.cls (.str s) [.dict] = some false := rfl
    have t2 : isTys ft.cls (.str s) [.list, .tuple] = some false := rfl
    have t3 : isTys ft.cls (.str s) [.int] = some false := rfl
    have t4 : isTys ft.cls (.str s) [.int, .list, .tuple, .dict] = some false := rfl
    simp_arith only [t1]
    rw [SW_nil, SW_cons]
    simp_arith only [t2]
    rw [SW_nil, SW_cons]
    simp_arith only [t3]
    rw [SW_nil, SW_cons]
    simp_arith only [t4, eqD_self_str hS]
    exact ⟨trivial, trivial⟩
  | tup xs =>
    cases n with
    | zero => exact False.elim hS
    | succ n =>
      obtain ⟨hl, hx⟩ := hS
      have t1 : isTys ft.cls (.tup xs) [.dict] = some false := rfl
      have t2 : isTys ft.cls (.tup xs) [.list, .tuple] = some true := rfl
      have t3 : isTys ft.cls (.tup xs) [.list] = some false := rfl
      have t4 : isTys ft.cls (.tup xs) [.tuple] = some true := rfl
      simp_arith only [t1]
      rw [SW_nil, SW_cons]
      simp_arith only [t2]
      rw [SW_cons]
      simp_arith only [t3, eqD_bl, beq_self_eq_true]
      rw [SW_nil, SW_cons]
      simp_arith only [t4, eqD_bl, beq_self_eq_true]
      rw [SW_nil, SW_cons]
      simp_arith only [beq_self_eq_true, zip_self_t, hd]
      refine lc_map (fun x => D.tup [x, x]) (fun _ => some (.bl true)) (by unfold big; omega) (fun x hx' => ?_) ?_
      · simp_arith only []
        exact call_of (h0 n rfl) fun g hg => ⟨_, _, hg x Ω (hx x hx'), rfl, rfl⟩
      · rw [fmSome]
        simp_arith only [alll, all_const, all_const2]
        exact ⟨trivial, trivial⟩
  | lst xs =>
    cases n with
    | zero => exact False.elim hS
    | succ n =>
      obtain ⟨hl, hx⟩ := hS
      have t1 : isTys ft.cls (.lst xs) [.dict] = some false := rfl
      have t2 : isTys ft.cls (.lst xs) [.list, .tuple] = some true := rfl
      have t3 : isTys ft.cls (.lst xs) [.list] = some true := rfl
      have t4 : isTys ft.cls (.lst xs) [.tuple] = some false := rfl
      simp_arith only [t1]
      rw [SW_nil, SW_cons]
      simp_arith only [t2]
      rw [SW_cons]
      simp_arith only [t3, eqD_bl, beq_self_eq_true]
      rw [SW_nil, SW_cons]
      simp_arith only [t4, eqD_bl, beq_self_eq_true]
      rw [SW_nil, SW_cons]
      simp_arith only [beq_self_eq_true, zip_self_l, hd]
      refine lc_map (fun x => D.tup [x, x]) (fun _ => some (.bl true)) (by unfold big; omega) (fun x hx' => ?_) ?_
      · simp_arith only []
        exact call_of (h0 n rfl) fun g hg => ⟨_, _, hg x Ω (hx x hx'), rfl, rfl⟩
      · rw [fmSome]
        simp_arith only [alll, all_const, all_const2]
        exact ⟨trivial, trivial⟩
  | dk kvs =>
    cases n with
    | zero => exact False.elim hS
    | succ n =>
      obtain ⟨hl, hnd, hx⟩ := hS
      have t1 : isTys ft.cls (.dk kvs) [.dict] = some true := rfl
      simp_arith only [t1]
      rw [SW_cons]
      simp_arith only [t1, beq_self_eq_true]
      rw [SW_nil, SW_cons]
      have it : iterD (.dk kvs) = some (kvs.map fun kv => kD kv.1) := rfl
      simp_arith only [it, hd]
      refine lc_map (fun kv : Key × D => kD kv.1) (fun _ => some (.bl true)) (by unfold big; omega) (fun kv hkv => ?_) ?_
      · have e1 : inD (kD kv.1) (.dk kvs) = some true := by
          show (match keyD (kD kv.1) with | some k => some (getK kvs k).isSome | none => none) = _
          rw [keyD_kD]
          simp only [getK_mem hnd hkv]
          rfl
        have e2 : idxD (.dk kvs) (kD kv.1) = some kv.2 := by
          show (match keyD (kD kv.1) with | some k => getK kvs k | none => none) = _
          rw [keyD_kD]
          exact getK_mem hnd hkv
        have lkk : lk Ω (kD kv.1) = kD kv.1 := by cases kv.1 <;> rfl
        simp_arith only [lkk, e1, e2]
        exact call_of (h0 n rfl) fun g hg => ⟨_, _, hg kv.2 Ω (hx kv hkv), rfl, rfl⟩
      · rw [fmSome]
        simp_arith only [alll, all_const, all_const2]
        exact ⟨trivial, trivial⟩
  | exn _ _ => cases n <;> exact False.elim hS
  | e0 => cases n <;> exact False.elim hS
  | scr _ => cases n <;> exact False.elim hS
  | dt _ => cases n <;> exact False.elim hS
  | ins _ _ => cases n <;> exact False.elim hS
  | hd _ => cases n <;> exact False.elim hS
end Rf
end
section
namespace Rf
open PySem L2
theorem Law.has {L : Law} {q : Str} {df : Df} (hf : L.find q = some df) {k : Nat} {S : (List D → Sto → R D) → Prop} (h : ∀ d, k ≤ d → S (runD (L.ft d) df.ps.length df.N.length df.sl)) : ∀ d, k + 1 ≤ d → Has (L.ft d) q S
  | 0, hd => by omega
  | d + 1, hd => ⟨L.g (d + 1) df, L.fn_eq (d + 1) hf, h d (by omega)⟩
end Rf
end
section
namespace Rf.K01
open PySem L2
def cs15 : List (Str × Str) := [("BadFault", "name"), ("BadLink", "index"), ("NoFault", "name"), ("BadShare", "share"), ("SameFault", "name"), ("BadNumber", "number"), ("Clash", "name"), ("BadName", "name"), ("BadOutcome", "outcome"), ("Unsafe", "some"), ("BadCount", "count"), ("BadPlace", "place"), ("BadCoin", "name"), ("NoWatch", "word"), ("BadText", "line")]
def cs8 : List Str := ["BadSum", "Never", "UnlikeFaults", "NoPaper", "BadSetting", "BadOrder", "NoEnd", "NoDeed"]
def cs : List Str := cs15.map (·.1) ++ cs8
structure XfH (ft : FT) : Prop where
  f1 : ∀ p ∈ cs15, ft.xf p.1 = some [p.2]
  f0 : ∀ c ∈ cs8, ft.xf c = some []
  x0 : ft.x0 = ([("FaultError" : Str)] : List Str)
abbrev rowE (c f : Str) : E := .tup (.cons (.exn c (.cons (.var 0) .nil)) (.cons (.xfl (.exn c (.cons (.var 0) .nil)) f) (.cons (.xfl (.exnk c f (.var 1)) f) .nil)))
def rowD (a b : D) (p : Str × Str) : D := .tup [.exn p.1 [(p.2, a)], a, b]
theorem row_ok {ft : FT} {p : Str × Str} {a b : D} {ρ : Env} {Ω : Sto} (h : ft.xf p.1 = some [p.2]) (h0 : ρ[0]? = some (some a)) (h1 : ρ[1]? = some (some b)) : evE ft (rowE p.1 p.2) ρ Ω = .ok (rowD a b p) Ω := by
  have b3 : 3 ≤ big := by decide +kernel
  simp [rowE, rowD, evE, evL, R.bind, h, h0, h1, opt, List.lookup, b3]
theorem app_step {ft : FT} {e : E} {r : SL} {ρ : Env} {Ω : Sto} {xs : List D} {d : D} {N : Env → Sto → Prop} {q : D → Sto → Prop} {i : Nat} (hv : ρ[i]? = some (some (.hd Ω.length))) (he : ∀ Ω', evE ft e ρ Ω' = .ok d Ω') (hl : xs.length < big)
    (k : SW (exL ft r ρ (Ω ++ [.lst (xs ++ [d])])) N q) : SW (exL ft (.cons (.expr (.meth (.var i) .append (.cons e .nil))) r) ρ (Ω ++ [.lst xs])) N q := by
  rw [SW_cons]
  simp [exS, evE, evL, hv, he, SW_st, R.bind, lk, recvOk, methX, lookM, methM, hl]
  exact k
theorem ext_step {ft : FT} {e : E} {r : SL} {ρ : Env} {Ω : Sto} {xs ys : List D} {N : Env → Sto → Prop} {q : D → Sto → Prop} {i : Nat} (hv : ρ[i]? = some (some (.hd Ω.length))) (he : ∀ Ω', evE ft e ρ Ω' = .ok (.lst ys) Ω') (hl : xs.length + ys.length ≤ big)
    (k : SW (exL ft r ρ (Ω ++ [.lst (xs ++ ys)])) N q) : SW (exL ft (.cons (.expr (.meth (.var i) .extend (.cons e .nil))) r) ρ (Ω ++ [.lst xs])) N q := by
  rw [SW_cons]
  simp [exS, evE, evL, hv, he, SW_st, R.bind, lk, recvOk, methX, lookM, methM, hl]
  exact k
theorem new_step {ft : FT} {es : EL} {r : SL} {ρ : Env} {Ω : Sto} {ds : List D} {N : Env → Sto → Prop} {q : D → Sto → Prop} {i : Nat} (he : evL ft es ρ Ω = .ok ds Ω) (hl : ds.length ≤ big)
    (k : SW (exL ft r (ρ.set i (some (.hd Ω.length))) (Ω ++ [.lst ds])) N q) : SW (exL ft (.cons (.asg (.nm i) (.newl es)) r) ρ Ω) N q := by
  rw [SW_cons]
  simp [exS, evE, he, SW_st, R.bind, bindT, hl]
  exact k
theorem ret_step {ft : FT} {r : SL} {ρ : Env} {Ω : Sto} {xs : List D} {N : Env → Sto → Prop} {q : D → Sto → Prop} {i : Nat} (hv : ρ[i]? = some (some (.hd Ω.length))) (k : q (.lst xs) (Ω ++ [.dead])) : SW (exL ft (.cons (.ret (.frz (.var i))) r) ρ (Ω ++ [.lst xs])) N q := by
  rw [SW_cons]
  simp [exS, evE, hv, SW_st, R.bind]
  exact k
theorem asg_step {ft : FT} {e : E} {r : SL} {ρ : Env} {Ω Ω' : Sto} {d : D} {N : Env → Sto → Prop} {q : D → Sto → Prop} {i : Nat} (he : evE ft e ρ Ω = .ok d Ω') (k : SW (exL ft r (ρ.set i (some d)) Ω') N q) : SW (exL ft (.cons (.asg (.nm i) e) r) ρ Ω) N q := by
  rw [SW_cons, exS, he]
  exact k
theorem retE_step {ft : FT} {e : E} {r : SL} {ρ : Env} {Ω Ω' : Sto} {d : D} {N : Env → Sto → Prop} {q : D → Sto → Prop} (he : evE ft e ρ Ω = .ok d Ω') (k : q d Ω') : SW (exL ft (.cons (.ret e) r) ρ Ω) N q := by
  rw [SW_cons, exS, he]
  exact k
theorem lt_big {n : Nat} (h : n ≤ 100) : n < big := Nat.lt_of_le_of_lt h (by decide +kernel)
theorem le_big {n : Nat} (h : n ≤ 100) : n ≤ big := Nat.le_of_lt (lt_big h)
def MadeOfS (g : List D → Sto → Rf.R D) : Prop := ∀ a b Ω, g [a, b] Ω = .ok (.lst (cs15.map (rowD a b))) (Ω ++ [.dead])
theorem madeof_ok {ft : FT} (X : XfH ft) : MadeOfS (runD ft 2 3 C.s__law_made_of) := by
  intro a b Ω
  suffices q : ∃ e Ω', runD ft 2 3 C.s__law_made_of [a, b] Ω = .ok e Ω' ∧ (e = .lst (cs15.map (rowD a b)) ∧ Ω' = Ω ++ [.dead]) by
    obtain ⟨e, Ω', e1, rfl, rfl⟩ := q
    exact e1
  refine run_of rfl ?_
  show SW (exL ft C.s__law_made_of [some a, some b, none] Ω) _ _
  unfold C.s__law_made_of
  have row : ∀ p ∈ cs15, ∀ Ω', evE ft (rowE p.1 p.2) [some a, some b, some (.hd Ω.length)] Ω' = .ok (rowD a b p) Ω' := fun p hp Ω' => row_ok (X.f1 p hp) rfl rfl
  refine new_step (ds := [rowD a b ("BadFault", "name")]) ?_ (le_big (by simp)) ?_
  · have := row_ok (ft := ft) (p := ("BadFault", "name")) (a := a) (b := b) (ρ := [some a, some b, none]) (Ω := Ω) (X.f1 _ (by decide)) rfl rfl
    rw [evL, this]
    simp [R.bind, evL]
  refine app_step (d := rowD a b ("BadLink", "index")) rfl (row ("BadLink", "index") (by decide)) (lt_big (by simp)) ?_
  refine app_step (d := rowD a b ("NoFault", "name")) rfl (row ("NoFault", "name") (by decide)) (lt_big (by simp)) ?_
  refine app_step (d := rowD a b ("BadShare", "share")) rfl (row ("BadShare", "share") (by decide)) (lt_big (by simp)) ?_
  refine app_step (d := rowD a b ("SameFault", "name")) rfl (row ("SameFault", "name") (by decide)) (lt_big (by simp)) ?_
  refine app_step (d := rowD a b ("BadNumber", "number")) rfl (row ("BadNumber", "number") (by decide)) (lt_big (by simp)) ?_
  refine app_step (d := rowD a b ("Clash", "name")) rfl (row ("Clash", "name") (by decide)) (lt_big (by simp)) ?_
  refine app_step (d := rowD a b ("BadName", "name")) rfl (row ("BadName", "name") (by decide)) (lt_big (by simp)) ?_
  refine app_step (d := rowD a b ("BadOutcome", "outcome")) rfl (row ("BadOutcome", "outcome") (by decide)) (lt_big (by simp)) ?_
  refine app_step (d := rowD a b ("Unsafe", "some")) rfl (row ("Unsafe", "some") (by decide)) (lt_big (by simp)) ?_
  refine app_step (d := rowD a b ("BadCount", "count")) rfl (row ("BadCount", "count") (by decide)) (lt_big (by simp)) ?_
  refine app_step (d := rowD a b ("BadPlace", "place")) rfl (row ("BadPlace", "place") (by decide)) (lt_big (by simp)) ?_
  refine app_step (d := rowD a b ("BadCoin", "name")) rfl (row ("BadCoin", "name") (by decide)) (lt_big (by simp)) ?_
  refine app_step (d := rowD a b ("NoWatch", "word")) rfl (row ("NoWatch", "word") (by decide)) (lt_big (by simp)) ?_
  refine app_step (d := rowD a b ("BadText", "line")) rfl (row ("BadText", "line") (by decide)) (lt_big (by simp)) ?_
  exact ret_step rfl ⟨rfl, rfl⟩
def BareS (g : List D → Sto → Rf.R D) : Prop := ∀ Ω, g [] Ω = .ok (.lst (cs8.map fun c => .exn c [])) Ω
theorem bare_ok {ft : FT} (X : XfH ft) : BareS (runD ft 0 1 C.s__law_bare) := by
  intro Ω
  refine run_eq rfl ?_
  show SW (exL ft C.s__law_bare [none] Ω) _ _
  unfold C.s__law_bare
  have x : ∀ c ∈ cs8, ft.xf c = some [] := X.f0
  have e : ∀ c ∈ cs8, ∀ ρ Ω, evE ft (.exn c .nil) ρ Ω = .ok (.exn c []) Ω := fun c hc ρ Ω => by simp [evE, evL, R.bind, x c hc]
  have b5 : 5 ≤ big := le_big (by decide)
  have b3 : 3 ≤ big := le_big (by decide)
  have b8 : 8 ≤ big := le_big (by decide)
  refine asg_step (d := .lst [.exn "BadSum" [], .exn "Never" [], .exn "UnlikeFaults" [], .exn "NoPaper" [], .exn "BadSetting" []]) (Ω' := Ω) ?_ ?_
  · rw [evE]
    simp [evL, e "BadSum" (by decide), e "Never" (by decide), e "UnlikeFaults" (by decide), e "NoPaper" (by decide), e "BadSetting" (by decide), R.bind, b5]
  refine retE_step (d := .lst (cs8.map fun c => .exn c [])) (Ω' := Ω) ?_ ⟨rfl, rfl⟩
  have l3 : ∀ ρ Ω, evE ft (.lst (.cons (.exn "BadOrder" .nil) (.cons (.exn "NoEnd" .nil) (.cons (.exn "NoDeed" .nil) .nil)))) ρ Ω = .ok (.lst [.exn "BadOrder" [], .exn "NoEnd" [], .exn "NoDeed" []]) Ω := fun ρ Ω => by
    rw [evE]
    simp [evL, e "BadOrder" (by decide), e "NoEnd" (by decide), e "NoDeed" (by decide), R.bind, b3]
  rw [evE]
  simp only [l3]
  simp [evE, R.bind, lk, op2D, opAdd, opt, b8, cs8]
def lf (d : D) (c : Str) : Bool := match d with
  | .exn q _ => decide (q = c)
  | _ => false
def Kn (d : D) : Prop := d = .non ∨ ∃ q fs, d = .exn q fs ∧ (q ∈ cs ∨ q = "FaultError")
theorem kn_ft {ft : FT} (X : XfH ft) {q : Str} (h : q ∈ cs ∨ q = "FaultError") : ((ft.xf q).isSome || ft.x0.contains q) = true := by
  rcases h with h | rfl
  · rcases List.mem_append.mp h with h | h
    · obtain ⟨p, hp, rfl⟩ := List.mem_map.mp h
      rw [X.f1 p hp]; rfl
    · rw [X.f0 q h]; rfl
  · rw [X.x0, Bool.or_eq_true]; right; decide
theorem isx_ok {ft : FT} (X : XfH ft) {d : D} (h : Kn d) {c : Str} {ρ : Env} {Ω : Sto} (h0 : ρ[0]? = some (some d)) : evE ft (.isx (.var 0) c .leaf) ρ Ω = .ok (.bl (lf d c)) Ω := by
  rcases h with rfl | ⟨q, fs, rfl, hq⟩
  · simp [evE, h0, R.bind, lf]
  · have := kn_ft X hq
    rw [evE, evE, h0]
    simp only [R.bind]
    rw [if_pos this]
    rfl
theorem l3_ok {ft : FT} (X : XfH ft) {d : D} (h : Kn d) {a b c : Str} {ρ : Env} (h0 : ρ[0]? = some (some d)) (Ω : Sto) : evE ft (.lst (.cons (.isx (.var 0) a .leaf) (.cons (.isx (.var 0) b .leaf) (.cons (.isx (.var 0) c .leaf) .nil)))) ρ Ω = .ok (.lst (([a, b, c] : List Str).map fun c => .bl (lf d c))) Ω := by
  have b3 : 3 ≤ big := le_big (by decide)
  rw [evE]
  simp [evL, isx_ok X h h0, R.bind, b3]
theorem l2_ok {ft : FT} (X : XfH ft) {d : D} (h : Kn d) {a b : Str} {ρ : Env} (h0 : ρ[0]? = some (some d)) (Ω : Sto) : evE ft (.lst (.cons (.isx (.var 0) a .leaf) (.cons (.isx (.var 0) b .leaf) .nil))) ρ Ω = .ok (.lst (([a, b] : List Str).map fun c => .bl (lf d c))) Ω := by
  have b3 : 2 ≤ big := le_big (by decide)
  rw [evE]
  simp [evL, isx_ok X h h0, R.bind, b3]
def ClsS (g : List D → Sto → Rf.R D) : Prop := ∀ d Ω, Kn d → g [d] Ω = .ok (.lst (cs.map fun c => .bl (lf d c))) (Ω ++ [.dead])
theorem cls_ok {ft : FT} (X : XfH ft) : ClsS (runD ft 1 2 C.s__law_classes) := by
  intro d Ω h
  suffices q : ∃ e Ω', runD ft 1 2 C.s__law_classes [d] Ω = .ok e Ω' ∧ (e = .lst (cs.map fun c => .bl (lf d c)) ∧ Ω' = Ω ++ [.dead]) by
    obtain ⟨e, Ω', e1, rfl, rfl⟩ := q
    exact e1
  refine run_of rfl ?_
  show SW (exL ft C.s__law_classes [some d, none] Ω) _ _
  unfold C.s__law_classes
  refine new_step (ds := (["BadFault", "BadLink", "NoFault"] : List Str).map fun c => .bl (lf d c)) ?_ (le_big (by simp)) ?_
  · simp [evL, isx_ok X h (ρ := [some d, none]) rfl, R.bind]
  refine ext_step rfl (l3_ok X h rfl) (le_big (by simp)) ?_
  refine ext_step rfl (l3_ok X h rfl) (le_big (by simp)) ?_
  refine ext_step rfl (l3_ok X h rfl) (le_big (by simp)) ?_
  refine ext_step rfl (l3_ok X h rfl) (le_big (by simp)) ?_
  refine ext_step rfl (l3_ok X h rfl) (le_big (by simp)) ?_
  refine ext_step rfl (l3_ok X h rfl) (le_big (by simp)) ?_
  refine ext_step rfl (l2_ok X h rfl) (le_big (by simp)) ?_
  exact ret_step rfl ⟨rfl, rfl⟩
def oddL : EL := .cons .non (.cons (.int 5) (.cons (.neg (.int 7)) (.cons (.bl true) (.cons (.str "") (.cons (.str "abc") (.cons (.tup .nil) (.cons (.tup (.cons (.int 1) (.cons (.tup (.cons (.int 2) (.cons (.str "x") .nil))) .nil))) (.cons (.op2 .Pow (.int 10) (.int 30)) (.cons (.tup (.cons (.str "a") (.cons (.str "b") .nil))) (.cons (.lst (.cons (.int 1) (.cons (.lst (.cons (.int 2) .nil)) .nil))) (.cons (.frz .newk) (.cons (.dsp (.cons (.str "a") (.cons (.int 1) .nil))) .nil))))))))))))
def odd : List D := [.non, .int 5, .int (-7), .bl true, .str "", .str "abc", .tup [], .tup [.int 1, .tup [.int 2, .str "x"]], .int (10 ^ 30), .tup [.str "a", .str "b"], .lst [.int 1, .lst [.int 2]], .dk [], .dk [(.inr "a", .int 1)]]
theorem odd_ok {ft : FT} (ρ : Env) (Ω : Sto) : evE ft (.lst oddL) ρ Ω = .ok (.lst odd) (Ω ++ [.dead]) := by
  have bs : ∀ n, n ≤ 100 → n ≤ big := fun n h => le_big h
  have b2 : 2 ≤ big := bs _ (by decide)
  have b13 : 13 ≤ big := bs _ (by decide)
  have b1 : 1 ≤ big := bs _ (by decide)
  have dd : dspD [.str "a", .int 1] = some (.dk [(.inr "a", .int 1)]) := rfl
  have pw : op2D .Pow (.int 10) (.int 30) = some (.int (10 ^ 30)) := by
    show (if (0 : Int) ≤ 30 ∧ (30 : Int) ≤ 1000000 ∧ (10 : Int).natAbs < 2 ^ 64 then some (D.int (10 ^ (30 : Int).toNat)) else none) = _
    rw [if_pos (by decide)]
    rfl
  have l2 : ∀ ρ Ω, evE ft (.dsp (.cons (.str "a") (.cons (.int 1) .nil))) ρ Ω = .ok (.dk [(.inr "a", .int 1)]) Ω := fun ρ Ω => by
    rw [evE]
    simp only [evL, evE, R.bind, R.nx, opt, dd]
  have pwE : ∀ ρ Ω, evE ft (.op2 .Pow (.int 10) (.int 30)) ρ Ω = .ok (.int (10 ^ 30)) Ω := fun ρ Ω => by
    rw [evE]
    simp only [evE, R.bind, lk, pw, opt]
  unfold oddL
  rw [evE]
  simp only [evL, l2, pwE]
  simp [evE, evL, R.bind, b2, b13, b1, odd]
theorem gd_lit : ∀ s ∈ (["", "abc", "x", "a", "b"] : List Str), GD (.str s) := by
  intro s hs
  have q : ((["", "abc", "x", "a", "b"] : List Str).all fun s => (PyData.str s).canLay0) = true := by decide +kernel
  exact ⟨_, rfl, List.all_eq_true.mp q s hs, by simp [PyData.depth]⟩
theorem odd_smd : ∀ x ∈ odd, SmD 2 x := fun x hx => by
  simp only [odd, List.mem_cons, List.not_mem_nil, or_false] at hx
  rcases hx with rfl | rfl | rfl | rfl | rfl | rfl | rfl | rfl | rfl | rfl | rfl | rfl | rfl
  · trivial
  · trivial
  · trivial
  · trivial
  · exact gd_lit _ (by simp)
  · exact gd_lit _ (by simp)
  · exact ⟨by simp, fun x hx => by cases hx⟩
  · refine ⟨by simp, fun x hx => ?_⟩
    simp only [List.mem_cons, List.not_mem_nil, or_false] at hx
    rcases hx with rfl | rfl
    · trivial
    · refine ⟨by simp, fun x hx => ?_⟩
      simp only [List.mem_cons, List.not_mem_nil, or_false] at hx
      rcases hx with rfl | rfl
      · trivial
      · exact gd_lit _ (by simp)
  · trivial
  · refine ⟨by simp, fun x hx => ?_⟩
    simp only [List.mem_cons, List.not_mem_nil, or_false] at hx
    rcases hx with rfl | rfl <;> exact gd_lit _ (by simp)
  · refine ⟨by simp, fun x hx => ?_⟩
    simp only [List.mem_cons, List.not_mem_nil, or_false] at hx
    rcases hx with rfl | rfl
    · trivial
    · refine ⟨by simp, fun x hx => ?_⟩
      simp only [List.mem_cons, List.not_mem_nil, or_false] at hx
      rcases hx with rfl
      trivial
  · exact ⟨by simp, List.nodup_nil, fun x hx => by cases hx⟩
  · refine ⟨by simp, by simp, fun x hx => ?_⟩
    simp only [List.mem_cons, List.not_mem_nil, or_false] at hx
    rcases hx with rfl
    trivial
theorem two_smd {a b : D} (ha : a ∈ odd) (hb : b ∈ odd) : SmD 3 (.lst [a, b]) := by
  refine ⟨by simp, fun x hx => ?_⟩
  simp only [List.mem_cons, List.not_mem_nil, or_false] at hx
  rcases hx with rfl | rfl
  · exact odd_smd _ ha
  · exact odd_smd _ hb
def allX (a : D) : List D := cs15.map (fun p => .exn p.1 [(p.2, a)]) ++ cs8.map fun c => .exn c []
theorem lf_at : ∀ i : Fin 23, eqD (.lst (cs.map fun c => .bl (decide (cs[i.1]? = some c)))) (.lst ((List.range 23).map fun (k : Nat) => .bl (decide ((k : Int) = (i.1 : Int))))) = some true := by decide +kernel
theorem allX_at {a x : D} {i : Nat} (h : (allX a)[i]? = some x) : ∃ q fs, x = .exn q fs ∧ cs[i]? = some q := by
  unfold allX at h
  unfold cs
  rw [List.getElem?_append] at h ⊢
  rw [List.length_map] at h ⊢
  split at h
  · rename_i hi
    rw [if_pos hi]
    rw [List.getElem?_map] at h ⊢
    cases e : cs15[i]? with
    | none => rw [e] at h; cases h
    | some p => rw [e] at h; cases h; exact ⟨_, _, rfl, rfl⟩
  · rename_i hi
    rw [if_neg hi]
    rw [List.getElem?_map] at h
    cases e : cs8[i - cs15.length]? with
    | none => rw [e] at h; cases h
    | some p => rw [e] at h; cases h; exact ⟨_, _, rfl, rfl⟩
theorem fe_no : eqD (.lst (cs.map fun c => .bl (lf (.exn "FaultError" []) c))) (.lst (List.replicate 23 [D.bl false]).flatten) = some true := by decide +kernel
theorem same_of {ft : FT} (h : Has ft "_law_same" (SameS 3)) {d : D} (hd : SmD 3 d) {Ω : Sto} {P : D → Sto → Prop} (k : P (.bl true) Ω) : Rf.RW (match ft.fn "_law_same" with | some g => g [d, d] Ω | none => .bad) P :=
  call_of h fun g hg => ⟨_, _, hg d Ω hd, k⟩
theorem lcD_eq {turn : D → Sto → Rf.R (Option D)} {Ω : Sto} (k : D → D) : ∀ (xs acc : List D), (∀ x ∈ xs, turn x Ω = .ok (some (k x)) Ω) → acc.length + xs.length ≤ big → lcD turn xs acc Ω = .ok (acc ++ xs.map k) Ω
  | [], acc, _, _ => by rw [lcD, List.map_nil, List.append_nil]
  | x :: xs, acc, h, hl => by
    rw [lcD, h x List.mem_cons_self]
    rw [List.length_cons] at hl
    have q : acc.length < big := by omega
    simp only [R.nx, R.bind, q, if_true]
    rw [lcD_eq k xs (acc ++ [k x]) (fun y hy => h y (List.mem_cons_of_mem _ hy)) (by rw [List.length_append, List.length_cons, List.length_nil]; omega), List.map_cons, List.append_assoc, List.singleton_append]
abbrev rhsE : E := .lc [13] (.nm 13) (.rng (.var 3)) .none (.cmp .Eq (.var 13) (.var 11))
theorem rng_l (n : Nat) : rngD 0 n = (List.range n).map fun k : Nat => D.int (0 + (k : Int)) := rfl
theorem rhs_ok {ft : FT} {Ω : Sto} {z0 z1 z2 z4 z5 z6 z7 z8 z9 z10 z12 z13 : Option D} (M : Nat) (hM : M ≤ 100) {j : Nat} : evE ft rhsE [z0, z1, z2, some (.int (M : Int)), z4, z5, z6, z7, z8, z9, z10, some (.int (j : Int)), z12, z13] Ω = .ok (.lst ((List.range M).map fun (k : Nat) => .bl (decide ((k : Int) = (j : Int))))) Ω := by
  have r : inR (M : Int) = true := decide_eq_true (show M < 4611686018427387904 by omega)
  rw [evE]
  simp only [evSr, evE, R.bind, List.getElem?_cons_succ, List.getElem?_cons_zero, r, if_true, rng_l]
  rw [lcD_eq (fun d => match d with | .int k => .bl (decide (k = (j : Int))) | _ => .non)]
  · simp only [List.nil_append, List.map_map]
    congr 1
    congr 1
    refine List.map_congr_left fun k _ => ?_
    simp
  · intro x hx
    obtain ⟨k, _, rfl⟩ := List.mem_map.mp hx
    simp [wipeD, bindT, evC, evE, R.bind, lk, cmpD, eqD_int, opt]
    rfl
  · rw [List.length_map, List.length_range, List.length_nil, Nat.zero_add]
    exact le_big hM
abbrev condE : E := .cmp .NotEq (.call "_law_classes" (.cons (.var 8) .nil) 0) rhsE
theorem cond_ok {ft : FT} (h5 : Has ft "_law_classes" ClsS) (d5 : ft.dfl "_law_classes" = []) {Ω : Sto} {z0 z1 z2 z4 z5 z6 z7 z9 z10 z12 z13 : Option D} {j : Nat} (hj : j < 23) {q : Str} {fs : List (Str × D)} (eq : cs[j]? = some q) :
    evE ft condE [z0, z1, z2, some (.int 23), z4, z5, z6, z7, some (.exn q fs), z9, z10, some (.int (j : Int)), z12, z13] Ω = .ok (.bl false) (Ω ++ [.dead]) := by
  obtain ⟨g, e, hg⟩ := h5
  have kn : Kn (.exn q fs) := .inr ⟨q, fs, rfl, .inl (List.mem_of_getElem? eq)⟩
  have e1 : (cs.map fun c => D.bl (lf (.exn q fs) c)) = cs.map fun c => .bl (decide (cs[j]? = some c)) := by
    refine List.map_congr_left fun c _ => ?_
    rw [eq]
    simp [lf]
  have e2 := lf_at ⟨j, hj⟩
  rw [← e1] at e2
  clear e1
  have r := rhs_ok (ft := ft) (Ω := Ω ++ [.dead]) (z0 := z0) (z1 := z1) (z2 := z2) (z4 := z4) (z5 := z5) (z6 := z6) (z7 := z7) (z8 := some (.exn q fs)) (z9 := z9) (z10 := z10) (z12 := z12) (z13 := z13) 23 (by omega) (j := j)
  rw [show (((23 : Nat) : Int)) = 23 from rfl] at r
  rw [evE, evE]
  simp only [evL, evE.eq_1, List.getElem?_cons_succ, List.getElem?_cons_zero, R.bind, e, d5, List.drop_nil, List.append_nil, hg _ _ kn]
  rw [r]
  simp only [R.bind, lk, cmpD, e2, Option.map_some, opt, Bool.not_true]
theorem or_ok {ft : FT} (X : XfH ft) {ρ : Env} {Ω : Sto} {q : Str} {fs : List (Str × D)} (hq : q ∈ cs) (h8 : ρ[8]? = some (some (.exn q fs))) :
    evE ft (.or (.cons (.not (.isx (.var 8) "FaultError" .base)) (.cons (.not (.isx (.var 8) "ValueError" .blt)) .nil))) ρ Ω = .ok (.bl false) Ω := by
  have kf := kn_ft X (q := q) (.inl hq)
  have e1 : evE ft (.isx (.var 8) "FaultError" .base) ρ Ω = .ok (.bl true) Ω := by
    rw [evE, evE, h8]
    simp only [R.bind]
    rw [if_pos kf]
    rfl
  have e2 : evE ft (.isx (.var 8) "ValueError" .blt) ρ Ω = .ok (.bl true) Ω := by
    rw [evE, evE, h8]
    simp only [R.bind]
    rw [if_pos kf]
    rfl
  rw [evE, evOr, evE, e1]
  simp only [R.bind, asBool, Bool.not_true, Bool.false_eq_true, if_false]
  · rw [evOr, evE, e2]
    try rfl
  · exact fun z => by cases z
abbrev bodyE : SL := .cons (.ife condE (.cons (.ret (.bl false)) .nil) .nil) (.cons (.ife (.or (.cons (.not (.isx (.var 8) "FaultError" .base)) (.cons (.not (.isx (.var 8) "ValueError" .blt)) .nil))) (.cons (.ret (.bl false)) .nil) .nil) .nil)
theorem turn_ok {ft : FT} (X : XfH ft) (h5 : Has ft "_law_classes" ClsS) (d5 : ft.dfl "_law_classes" = []) {Ω : Sto} {z0 z1 z2 z4 z5 z6 z7 z9 z10 z12 z13 : Option D} {j : Nat} (hj : j < 23) {q : Str} {fs : List (Str × D)} (eq : cs[j]? = some q)
    {N : Env → Sto → Prop} {Q : D → Sto → Prop} (k : N [z0, z1, z2, some (.int 23), z4, z5, z6, z7, some (.exn q fs), z9, z10, some (.int (j : Int)), z12, z13] (Ω ++ [.dead])) :
    SW (exL ft bodyE [z0, z1, z2, some (.int 23), z4, z5, z6, z7, some (.exn q fs), z9, z10, some (.int (j : Int)), z12, z13] Ω) N Q := by
  unfold bodyE
  rw [SW_cons, exS, evT, cond_ok h5 d5 hj eq]
  simp only [R.bind, asBool, R.st, if_false, Bool.false_eq_true]
  rw [SW_nil, SW_cons, exS, evT, or_ok X (List.mem_of_getElem? eq) rfl]
  simp only [R.bind, asBool, R.st, if_false, Bool.false_eq_true]
  rw [SW_nil, SW_nil]
  exact k
theorem law_ok {ft : FT} (h0 : Has ft "_law_spring" SpringS) (h2 : Has ft "_law_one" OneS) (h3 : Has ft "_law_made_of" MadeOfS) (h4 : Has ft "_law_bare" BareS) (h5 : Has ft "_law_classes" ClsS) (h6 : Has ft "_law_same" (SameS 3))
    (d0 : ft.dfl "_law_spring" = []) (d2 : ft.dfl "_law_one" = []) (d3 : ft.dfl "_law_made_of" = []) (d4 : ft.dfl "_law_bare" = []) (d5 : ft.dfl "_law_classes" = []) (d6 : ft.dfl "_law_same" = []) (X : XfH ft) :
    ∀ ns : List Int, ns.length ≤ 63 → ∃ Ω, runD ft 1 14 s_law [.scr ns] [] = .ok (.bl true) Ω := by
  intro sc hsc
  suffices q : ∃ e Ω', runD ft 1 14 s_law [.scr sc] [] = .ok e Ω' ∧ e = .bl true by
    obtain ⟨e, Ω', e1, rfl⟩ := q
    exact ⟨Ω', e1⟩
  refine run_of rfl ?_
  show SW (exL ft s_law [some (.scr sc), none, none, none, none, none, none, none, none, none, none, none, none, none] []) _ _
  unfold s_law
  rw [SW_cons]
  simp_arith only [d0]
  refine call_of h0 fun g hg => ?_
  obtain ⟨s, b, Ω0, e0, s0⟩ := hg sc hsc
  refine ⟨_, _, e0, ?_⟩
  try simp_arith only []
  refine asg_step (odd_ok _ _) ?_
  simp only [List.set_cons_zero, List.set_cons_succ]
  rw [SW_cons]
  simp_arith only [d5]
  refine call_of h5 fun g hg => ?_
  refine ⟨_, _, hg .non _ (.inl rfl), ?_⟩
  have cl : (cs.map fun c => D.bl (lf .non c)).length = 23 := by rw [List.length_map]; rfl
  simp_arith only [cl]
  rw [SW_cons]
  have r4 : inR 4 = true := rfl
  have s1 : Sp (Ω0 ++ [.dead] ++ [.dead]) s b 0 := ((s0.at_ (List.getElem?_append_left s0.lt.1) (List.getElem?_append_left s0.lt.2) (Int.le_refl _)) : Sp (Ω0 ++ [.dead]) s b 0).at_ (List.getElem?_append_left (by have := s0.lt.1; rw [List.length_append]; omega)) (List.getElem?_append_left (by have := s0.lt.2; rw [List.length_append]; omega)) (Int.le_refl _)
  have rl4 : ∀ i x, (rngD 0 4)[i]? = some x → i < 4 := fun i x hx => by have := (List.getElem?_eq_some_iff.mp hx).1; simpa [rngD] using this
  simp_arith only [r4]
  refine for_of (fun i ρ Ω => (∃ z4 z5 z6 z7 z8 z9 z10 z11 z12 z13 : Option D, ρ = [some (.scr sc), some (.hd s), some (.lst odd), some (.int 23), z4, z5, z6, z7, z8, z9, z10, z11, z12, z13]) ∧ Sp Ω s b (1000 * i)) ⟨⟨_, _, _, _, _, _, _, _, _, _, rfl⟩, s1.at_ rfl rfl (by omega)⟩ (fun i x ρ Ω hx hi2 => ?_) (fun ρ Ω hi2 => ?_)
  · obtain ⟨⟨z4, z5, z6, z7, z8, z9, z10, z11, z12, z13, rfl⟩, hs⟩ := hi2
    have hi4 := rl4 i x hx
    have ol : odd.length = 13 := rfl
    rw [SW_cons]
    simp_arith only [d2]
    refine call_of h2 fun g hg => ?_
    obtain ⟨a, Ω1, e, ha, q1, _⟩ := hg Ω s b _ odd hs (by omega) (by simp [odd]) (by omega)
    refine ⟨_, _, e, ?_⟩
    simp_arith only [d2]
    refine call_of h2 fun g hg => ?_
    obtain ⟨c, Ω2, e, hc, q2, _⟩ := hg Ω1 s b _ odd q1 (by omega) (by simp [odd]) (by omega)
    refine ⟨_, _, e, ?_⟩
    simp_arith only []
    rw [SW_cons]
    simp_arith only [d3]
    refine call_of h3 fun g hg => ?_
    refine ⟨_, _, hg a c Ω2, ?_⟩
    have q3 : Sp (Ω2 ++ [.dead]) s b (1000 * i + 2) := q2.at_ (List.getElem?_append_left q2.lt.1) (List.getElem?_append_left q2.lt.2) (by omega)
    generalize Ω2 ++ [Ob.dead] = Ω3 at *
    simp_arith only []
    rw [SW_cons]
    have sq : ∀ xs : List D, seqD (.lst xs) = some xs := fun _ => rfl
    simp_arith only [sq]
    refine for_of (fun j ρ Ω => (∃ z8 z9 z10 z11 z12 z13 : Option D, ρ = [some (.scr sc), some (.hd s), some (.lst odd), some (.int 23), some x, some (.lst (cs15.map (rowD a c))), some a, some c, z8, z9, z10, z11, z12, z13]) ∧ Ω = Ω3) ⟨⟨_, _, _, _, _, _, rfl⟩, rfl⟩ (fun j y ρ Ω hy hj => ?_) (fun ρ Ω hj => ?_)
    · obtain ⟨⟨z8, z9, z10, z11, z12, z13, rfl⟩, rfl⟩ := hj
      rw [List.getElem?_map] at hy
      cases ep : cs15[j]? with
      | none => rw [ep] at hy; cases hy
      | some p =>
        rw [ep] at hy
        have hy := (Option.some.inj hy).symm
        subst hy
        simp_arith only [rowD]
        rw [SW_cons]
        simp_arith only [d6]
        refine same_of h6 (two_smd ha hc) ?_
        simp_arith only []
        rw [SW_nil, SW_nil]
        exact ⟨⟨_, _, _, _, _, _, rfl⟩, rfl⟩
    · obtain ⟨⟨z8, z9, z10, z11, z12, z13, rfl⟩, rfl⟩ := hj
      rw [SW_cons]
      have it : ∀ xs : List D, iterD (.lst xs) = some xs := fun _ => rfl
      simp_arith only [sq, it]
      refine lc_map (xs := cs15) (rowD a c) (fun p => some (.exn p.1 [(p.2, a)])) (le_big (by decide)) (fun p hp => ?_) ?_
      · simp_arith only [rowD]
        first | exact ⟨rfl, rfl⟩ | exact ⟨trivial, rfl⟩ | exact ⟨trivial, trivial⟩
      rw [fmSome]
      simp_arith only [d4]
      refine call_of h4 fun g hg => ?_
      refine ⟨_, _, hg _, ?_⟩
      have ad : op2D .Add (.lst (cs15.map fun p => .exn p.1 [(p.2, a)])) (.lst (cs8.map fun c => .exn c [])) = some (.lst (allX a)) := by
        simp only [op2D, opAdd, List.length_map]
        rw [if_pos (le_big (by decide))]
        rfl
      simp_arith only [ad, sq]
      have enl : (enD (allX a)).length = 23 := rfl
      refine for_of (fun j ρ Ω => (∃ z8 z9 z10 z11 z12 z13 : Option D, ρ = [some (.scr sc), some (.hd s), some (.lst odd), some (.int 23), some x, some (.lst (cs15.map (rowD a c))), some a, some c, z8, z9, z10, z11, z12, z13]) ∧ Sp Ω s b (1000 * i + 2)) ⟨⟨_, _, _, _, _, _, rfl⟩, q3⟩ (fun j y ρ Ω hy hj => ?_) (fun ρ Ω hj => ?_)
      · obtain ⟨⟨z8, z9, z10, z11, z12, z13, rfl⟩, hs3⟩ := hj
        have hj23 : j < 23 := by rw [← enl]; exact (List.getElem?_eq_some_iff.mp hy).1
        unfold enD at hy
        rw [List.getElem?_map, List.getElem?_zipIdx] at hy
        cases ex : (allX a)[j]? with
        | none => rw [ex] at hy; cases hy
        | some xx =>
          rw [ex] at hy
          have hy : D.tup [.int ((0 + j : Nat) : Int), xx] = y := Option.some.inj hy
          obtain ⟨q, fs, rfl, eq⟩ := allX_at ex
          subst hy
          rw [show (0 + j : Nat) = j from Nat.zero_add j]
          refine turn_ok X h5 d5 hj23 eq ?_
          exact ⟨⟨_, _, _, _, _, _, rfl⟩, hs3.at_ (List.getElem?_append_left hs3.lt.1) (List.getElem?_append_left hs3.lt.2) (by omega)⟩
      · obtain ⟨⟨z8, z9, z10, z11, z12, z13, rfl⟩, hs3⟩ := hj
        rw [SW_nil]
        exact ⟨⟨_, _, _, _, _, _, _, _, _, _, rfl⟩, hs3.at_ rfl rfl (by omega)⟩
  · obtain ⟨⟨z4, z5, z6, z7, z8, z9, z10, z11, z12, z13, rfl⟩, hs⟩ := hi2
    have xk : ft.x0.contains "FaultError" = true := by rw [X.x0]; decide
    have xE : ∀ ρ Ω, evE ft (.exn0 "FaultError") ρ Ω = .ok (.exn "FaultError" []) Ω := fun ρ Ω => by rw [evE, if_pos xk]
    have ml : op2D .Mult (.lst [.bl false]) (.int 23) = some (.lst (List.replicate 23 [D.bl false]).flatten) := by
      show (if -(2 ^ 63) ≤ (23 : Int) ∧ (23 : Int) < 2 ^ 63 ∧ 1 * 23 ≤ big then some (D.lst _) else none) = _
      rw [if_pos ⟨by decide, by decide, le_big (by decide)⟩]
      rfl
    have mE : ∀ Ω, evE ft (.op2 .Mult (.lst (.cons (.bl false) .nil)) (.var 3)) [some (.scr sc), some (.hd s), some (.lst odd), some (.int 23), z4, z5, z6, z7, z8, z9, z10, z11, z12, z13] Ω = .ok (.lst (List.replicate 23 [D.bl false]).flatten) Ω := fun Ω => by
      have b1 : 1 ≤ big := le_big (by decide)
      rw [evE, evE]
      simp only [evL, evE, R.bind, List.length_cons, List.length_nil, Nat.zero_add, if_pos b1, List.getElem?_cons_succ, List.getElem?_cons_zero, lk, ml, opt]
    have iE : ∀ ρ Ω, evE ft (.isx (.exn0 "FaultError") "ValueError" .blt) ρ Ω = .ok (.bl true) Ω := fun ρ Ω => by
      have kf := kn_ft X (q := "FaultError") (.inr rfl)
      rw [evE, xE]
      simp only [R.bind, if_pos kf]
      rfl
    have cE : ∀ Ω, ∃ Ω', evE ft (.cmp .Eq (.call "_law_classes" (.cons (.exn0 "FaultError") .nil) 0) (.op2 .Mult (.lst (.cons (.bl false) .nil)) (.var 3))) [some (.scr sc), some (.hd s), some (.lst odd), some (.int 23), z4, z5, z6, z7, z8, z9, z10, z11, z12, z13] Ω = .ok (.bl true) Ω' := fun Ω => by
      obtain ⟨g, e, hg⟩ := h5
      refine ⟨Ω ++ [.dead], ?_⟩
      rw [evE, evE]
      simp only [evL, xE, R.bind, e, d5, List.drop_nil, List.append_nil, hg _ _ (.inr ⟨_, _, rfl, .inr rfl⟩), mE, lk, cmpD, fe_no, opt]
    obtain ⟨Ω', c1⟩ := cE Ω
    refine retE_step (d := .bl true) (Ω' := Ω') ?_ rfl
    rw [evE]
    simp only [evAnd, c1, iE, R.bind]
    try rfl
theorem xfH (d : Nat) : XfH (L.ft d) := by
  have h1 : (cs15.all fun p => decide (L.xfO p.1 = some [p.2])) = true := by decide +kernel
  have h2 : (cs8.all fun c => decide (L.xfO c = some [])) = true := by decide +kernel
  refine ⟨fun p hp => ?_, fun c hc => ?_, ?_⟩
  · rw [Law.xf_eq]; exact of_decide_eq_true (List.all_eq_true.mp h1 p hp)
  · rw [Law.xf_eq]; exact of_decide_eq_true (List.all_eq_true.mp h2 c hc)
  · rw [Law.x0_eq]; rfl
end Rf.K01
end
section
namespace Rf.K01
open PySem L2
theorem F__law_spring : L.find "_law_spring" = some f__law_spring := by kernel_rfl
theorem D__law_spring (d : Nat) : (L.ft d).dfl "_law_spring" = f__law_spring.dfl := by rw [Law.dfl_eq, Law.dflOf_eq L F__law_spring]
theorem F__law_take : L.find "_law_take" = some f__law_take := by kernel_rfl
theorem D__law_take (d : Nat) : (L.ft d).dfl "_law_take" = f__law_take.dfl := by rw [Law.dfl_eq, Law.dflOf_eq L F__law_take]
theorem F__law_one : L.find "_law_one" = some f__law_one := by kernel_rfl
theorem D__law_one (d : Nat) : (L.ft d).dfl "_law_one" = f__law_one.dfl := by rw [Law.dfl_eq, Law.dflOf_eq L F__law_one]
theorem F__law_made_of : L.find "_law_made_of" = some f__law_made_of := by kernel_rfl
theorem D__law_made_of (d : Nat) : (L.ft d).dfl "_law_made_of" = f__law_made_of.dfl := by rw [Law.dfl_eq, Law.dflOf_eq L F__law_made_of]
theorem F__law_bare : L.find "_law_bare" = some f__law_bare := by kernel_rfl
theorem D__law_bare (d : Nat) : (L.ft d).dfl "_law_bare" = f__law_bare.dfl := by rw [Law.dfl_eq, Law.dflOf_eq L F__law_bare]
theorem F__law_classes : L.find "_law_classes" = some f__law_classes := by kernel_rfl
theorem D__law_classes (d : Nat) : (L.ft d).dfl "_law_classes" = f__law_classes.dfl := by rw [Law.dfl_eq, Law.dflOf_eq L F__law_classes]
theorem F__law_same : L.find "_law_same" = some f__law_same := by kernel_rfl
theorem D__law_same (d : Nat) : (L.ft d).dfl "_law_same" = f__law_same.dfl := by rw [Law.dfl_eq, Law.dflOf_eq L F__law_same]
theorem H__law_spring : ∀ d, 1 ≤ d → Has (L.ft d) "_law_spring" (SpringS) := Law.has F__law_spring (k := 0) fun d hd => spring_ok
theorem H__law_take : ∀ d, 1 ≤ d → Has (L.ft d) "_law_take" (TakeS) := Law.has F__law_take (k := 0) fun d hd => take_ok _
theorem H__law_one : ∀ d, 2 ≤ d → Has (L.ft d) "_law_one" (OneS) := Law.has F__law_one (k := 1) fun d hd => one_okL (H__law_take d (by omega)) (D__law_take d)
theorem H__law_made_of : ∀ d, 1 ≤ d → Has (L.ft d) "_law_made_of" (MadeOfS) := Law.has F__law_made_of (k := 0) fun d hd => madeof_ok (xfH _)
theorem H__law_bare : ∀ d, 1 ≤ d → Has (L.ft d) "_law_bare" (BareS) := Law.has F__law_bare (k := 0) fun d hd => bare_ok (xfH _)
theorem H__law_classes : ∀ d, 1 ≤ d → Has (L.ft d) "_law_classes" (ClsS) := Law.has F__law_classes (k := 0) fun d hd => cls_ok (xfH _)
theorem H__law_same : ∀ m, m ≤ 6 → ∀ d, m + 1 ≤ d → Has (L.ft d) "_law_same" (SameS m) := by
  intro m
  induction m with
  | zero => exact fun hm => Law.has F__law_same (k := 0) fun d hd => same_ok (fun m h => by omega) (D__law_same d)
  | succ m ih =>
    intro hm d hd
    exact Law.has F__law_same (k := m + 1) (fun d hd => same_ok (fun m' h => by cases h; exact ih (by omega) d (by omega)) (D__law_same d)) d (by omega)
theorem good : L.good 5 f_law := law_ok (H__law_spring 4 (by omega)) (H__law_one 4 (by omega)) (H__law_made_of 4 (by omega)) (H__law_bare 4 (by omega)) (H__law_classes 4 (by omega)) (H__law_same 3 (by omega) 4 (by omega)) (D__law_spring _) (D__law_one _) (D__law_made_of _) (D__law_bare _) (D__law_classes _) (D__law_same _) (xfH _)
end Rf.K01
theorem PySem.Challenge.cw_linkedfaults_k01_errors_made_holds : PySem.Challenge.rw_linkedfaults_k01_errors_made.Holds :=
  Rf.K01.close 5 ⟨by decide, by decide +kernel, by decide +kernel⟩ Rf.K01.good
end
